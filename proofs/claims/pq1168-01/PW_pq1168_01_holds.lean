import PyProof.Rows.All
import Wide.All
import OpenK.AllK
import PyProof.FactsAll.tuple_2
import Wide.FinOn
import PySem.Challenge.RW_pq1168_01
open PySem PySem.W PyProof.Rows PySem.Spec PySem.Calls
set_option Elab.async false
set_option maxRecDepth 100000
set_option linter.all false
set_option bootstrap.genMatcherCode false
set_option genSizeOf false
set_option compiler.extract_closed false
namespace Mine
section
set_option maxHeartbeats 8000000
section

open PySem.W.Fast
set_option maxRecDepth 100000 in
theorem said : PySem.Challenge.rw_pq1168_01.wellSaid = true := by
  rw [te9446332074065402090]
  kernel_rfl

noncomputable def runQ (p : Program) (w : World) (ann : Option Value) (N : Nat) : SharedT → Thread → Option SharedT :=
  Nat.rec (fun _ _ => none) (fun _ ih s t => match through t with
    | true => some s
    | false => match tw6613529449190102663 11 ann t with
      | false => none
      | true => match tw10156331382660048174 (tw11892475500146522536 tw14364793385576792824) p w s t with
        | some (s', t') => ih s' t'
        | none => none) N
theorem runQ_zero (p : Program) (w : World) (ann : Option Value) (s : SharedT) (t : Thread) : runQ p w ann 0 s t = none := rfl
theorem runQ_succ (p : Program) (w : World) (ann : Option Value) (n : Nat) (s : SharedT) (t : Thread) : runQ p w ann (n + 1) s t = (match through t with
    | true => some s
    | false => match stepOk 11 ann t with
      | false => none
      | true => match stepT (denote treeTable) p w s t with
        | some (s', t') => runQ p w ann n s' t'
        | none => none) := by
  rw [te6613529449190102663, te10156331382660048174, te11892475500146522536, te14364793385576792824]
  rfl
theorem runQ_spec {p : Program} {w : World} {ann : Option Value} : ∀ {n : Nat} {s s' : SharedT} {t : Thread}, runQ p w ann n s t = some s' → topRun treeTable p w 11 ann n s.abs t = some s'.abs
  | 0, s, s', t, h => by rw [runQ_zero] at h; cases h
  | n + 1, s, s', t, h => by
    rw [runQ_succ] at h
    unfold topRun
    cases ht : through t with
    | true => rw [ht] at h; cases h; rfl
    | false =>
      rw [ht] at h
      cases hk : stepOk 11 ann t with
      | false => rw [hk] at h; cases h
      | true =>
        rw [hk] at h
        cases hs : stepT (denote treeTable) p w s t with
        | none => rw [hs] at h; cases h
        | some r => obtain ⟨s₂, t₂⟩ := r; rw [hs] at h; dsimp only at h ⊢; rw [stepT_spec hs]; exact runQ_spec h
noncomputable def tree0 (P : Params) : BT :=
  .node (boot_o_0 P)
    (.node (boot_o_1 P) (.node (boot_o_3 P) (.node (boot_o_7 P) .nil .nil) .nil) (.node (boot_o_5 P) (.node (boot_o_9 P) .nil .nil) .nil))
    (.node (boot_o_2 P) (.node (boot_o_4 P) (.node (boot_o_8 P) .nil .nil) .nil) (.node (boot_o_6 P) (.node (boot_o_10 P) .nil .nil) .nil))
noncomputable def S0 (w : World) (os : OsState) : SharedT := ⟨tree0 w.params, 11, {}, #[], boot_drawn, boot_toks, os⟩
theorem abs0 (w : World) (os : OsState) : (S0 w os).abs = ⟨boot_heap w.params, #[], boot_drawn, boot_toks, os⟩ := by kernel_rfl
theorem ann0 (w : World) : (boot_heap w.params).nsMap mainGlobals "__annotations__" = some (.ref 6) := by kernel_rfl
theorem size0 (w : World) : (boot_heap w.params).objs.size = 11 := by kernel_rfl
theorem ns0 (w : World) : (boot_heap w.params).isNs mainGlobals = true := by kernel_rfl
abbrev w4 (w : World) (a b : Bool) : World := (w.withFollow "special-get-raises" a).withFollow "comprehension-iter-twice" b
theorem w4_self (w : World) : ∃ a b, w4 w a b = w := ⟨w.params.followText "special-get-raises", w.params.followText "comprehension-iter-twice", by
  show (w.withFollow "special-get-raises" (w.params.followText "special-get-raises")).withFollow "comprehension-iter-twice" _ = w
  rw [World.withFollow_self, World.withFollow_self]⟩

/-- what the run's end is asked, in one -/
noncomputable def seenQ (p q : Program) (loose : List Str) (Xt : Shared → Bool) {α : Type} (Yf : Shared → α) (w : World) (s : SharedT) :=
  ((staticsOk (importedModules p.main.body) (boot_heap w.params) s.abs.heap && namesBound p s.abs.heap && gensDone s.abs && laidKept (boot_heap w.params) s.abs.heap),
    tw4187177175401517315 q loose (importedModules p.main.body) Xt true s.abs, Yf s.abs)
theorem left_of {p q : Program} {loose : List Str} {Xt : Shared → Bool} {α : Type} {Yf : Shared → α} {Ya : World → α} {N : Nat}
    (hopen : ∀ w : World, (fencedOpening treeTable p w N).map (fun s => (s.heap, s.gens, s.drawn, s.toks)) = some (boot_heap w.params, #[], boot_drawn, boot_toks))
    (chk : ∀ (w : World) (a b : Bool) (os : OsState), (runQ p (w4 w a b) (some (.ref 6)) N (S0 (w4 w a b) os) (topStub p)).map (seenQ p q loose Xt Yf (w4 w a b)) = some (true, openGood q loose, Ya (w4 w a b))) :
    LeftO p q loose Xt Yf Ya N := by
  intro w
  obtain ⟨a, b, hw⟩ := w4_self w
  obtain ⟨⟨h, gs, d, k, os⟩, e, e'⟩ := Option.map_eq_some_iff.mp (hopen w)
  obtain ⟨rfl, rfl, rfl, rfl⟩ : h = boot_heap w.params ∧ gs = #[] ∧ d = boot_drawn ∧ k = boot_toks := by simpa using e'
  have c := chk w a b os
  rw [hw] at c
  obtain ⟨s, r, cs⟩ := Option.map_eq_some_iff.mp c
  have r' := runQ_spec r
  rw [abs0] at r'
  unfold seenQ at cs
  rw [← te4187177175401517315] at cs
  obtain ⟨c1, c2, c3⟩ : _ ∧ _ ∧ _ := by simpa only [Prod.mk.injEq] using cs
  have t : topFrom treeTable p w N ⟨boot_heap w.params, #[], boot_drawn, boot_toks, os⟩ = some s.abs := by
    unfold topFrom
    dsimp only
    rw [ns0, size0, ann0, r']
    show (match staticsOk (importedModules p.main.body) (boot_heap w.params) s.abs.heap && namesBound p s.abs.heap && gensDone s.abs && laidKept (boot_heap w.params) s.abs.heap with | true => _ | false => _) = _
    rw [c1]
  unfold openEnds
  rw [e]
  show (topFrom treeTable p w N _).map _ = _
  rw [t]
  exact congrArg some (Prod.ext c2 c3)
end

def looseQ : List Str := [Str.ofString "_wall", Str.ofString "SwitchError", Str.ofString "FormError", Str.ofString "SizeError", Str.ofString "TableError", Str.ofString "KINDS", Str.ofString "ROLES", Str.ofString "PACKED", Str.ofString "KNOWN", Str.ofString "CONFIG_SIZE", Str.ofString "RAPID_SIZE", Str.ofString "CHANGE_SIZE", Str.ofString "Times", Str.ofString "Bpdu", Str.ofString "changed_notice", Str.ofString "number_octets", Str.ofString "octets_number", Str.ofString "bridge_octets", Str.ofString "port_octets", Str.ofString "vector_octets", Str.ofString "times_octets", Str.ofString "check_bpdu", Str.ofString "pack_bpdu", Str.ofString "read_bridge", Str.ofString "read_port", Str.ofString "read_vector", Str.ofString "read_times", Str.ofString "read_tail", Str.ofString "kind_of", Str.ofString "unpack_bpdu", Str.ofString "put_number", Str.ofString "get_number", Str.ofString "put16", Str.ofString "put48", Str.ofString "get16", Str.ofString "get48", Str.ofString "SUBTYPE", Str.ofString "VERSION", Str.ofString "ACTOR_PART", Str.ofString "PARTNER_PART", Str.ofString "COLLECTOR_PART", Str.ofString "INFO_SIZE", Str.ofString "COLLECTOR_SIZE", Str.ofString "LAST_ROOM", Str.ofString "WHOLE_SIZE", Str.ofString "Lacpdu", Str.ofString "info_at", Str.ofString "unpack_lacpdu", Str.ofString "LLDP_KIND", Str.ofString "TURNED_POLYNOMIAL", Str.ofString "ALL_ONES", Str.ofString "divided_word", Str.ofString "HALF_TABLE", Str.ofString "crc32", Str.ofString "frame_sum", Str.ofString "CUSTOMER_KIND", Str.ofString "PROVIDER_KIND", Str.ofString "TAG_KINDS", Str.ofString "FIRST_KIND", Str.ofString "MOST_LENGTH", Str.ofString "MOST_TAGS", Str.ofString "NO_VLAN", Str.ofString "HEAD_SIZE", Str.ofString "TAG_SIZE", Str.ofString "SUM_SIZE", Str.ofString "LEAST_SIZE", Str.ofString "Tag", Str.ofString "Frame", Str.ofString "pack_tag", Str.ofString "pack_kind", Str.ofString "pack_frame", Str.ofString "unpack_tag", Str.ofString "unpack_tags", Str.ofString "unpack_frame", Str.ofString "TREE_POINT", Str.ofString "PLAIN_CONTROL", Str.ofString "Llc", Str.ofString "is_short_control", Str.ofString "pack_llc", Str.ofString "unpack_llc", Str.ofString "link_frame", Str.ofString "PAUSE_KIND", Str.ofString "PAUSE_TARGET", Str.ofString "PLAIN_CODE", Str.ofString "SINGLE_CODE", Str.ofString "PRIORITIES", Str.ofString "MOST_TIME", Str.ofString "PauseFrame", Str.ofString "pack_pause", Str.ofString "unpack_pause", Str.ofString "time_behind", Str.ofString "PauseState", Str.ofString "BRIDGE_GROUP", Str.ofString "SLOW_GROUP", Str.ofString "SLOW_KIND", Str.ofString "control_of", Str.ofString "Port", Str.ofString "LinkWatch", Str.ofString "Ports", Str.ofString "_law_base", Str.ofString "_law_pool", Str.ofString "_law_take", Str.ofString "_law_one", Str.ofString "_law_sort", Str.ofString "_law_is_refused", Str.ofString "_law_tags", Str.ofString "_law_trees_right", Str.ofString "_law_waits_right", Str.ofString "_law_ports_right", Str.ofString "_law_state_right", Str.ofString "_law_tag_right"]
def qQ : Program := view PySem.Challenge.pw_pq1168_01 [122]
theorem holds_both {r : OpenRow} {q : Program} {loose : List Str} {Xt : Shared → Bool}
    {XP : (Str → Option Value) → Heap → Prop} {α : Type} {Yf : Shared → α} {Ya : World → α} {YP : World → Heap → Prop}
    {d : DefRec} {kwd : List (Str × PySem.Expr)} {N : Nat}
    (h1 : ∀ (w : World) (s : Shared), Yf s = Ya w → YP w s.heap)
    (h2 : ∀ (w : World) (h h' : Heap), YP w h → (∀ (b : Addr) (o : Obj), h.get? b = some o → h'.get? b = some o) → YP w h')
    (h3 : ∀ (s : Shared), Xt s = true → XP (s.heap.nsMap mainGlobals) s.heap)
    (h4 : ∀ (mg : Str → Option Value) (h h' : Heap), XP mg h → (∀ (b : Addr) (o : Obj), h.get? b = some o → h'.get? b = some o) → XP mg h')
    (h5 : defOf q r.name = some (d, kwd)) (h6 : r.prog.theDef r.name = some (d.params, d.body, d.scope))
    (h7 : kwWritten? d.params.kwonlyargs d.params.kw_defaults = some kwd) (h8 : ∀ (s : Shared), Xt s = true → RecFacts r.records s.heap)
    (h9 : (!r.writes || List.isEmpty r.records) = true) (h10 : r.wellSaid = true)
    (h11 : (chainsOk q && opensWell r.prog && (frees r.toRowW && r.within.isEmpty)) = true) (h12 : r.prog.bare) (h13 : r.promised)
    (h : LeftO r.prog q loose Xt Yf Ya N ∧ WalkO q loose XP YP r.toRowW d kwd fun f vs => call f vs) : r.Holds :=
  holds_open h.1 h1 h2 h3 h4 h5 h6 h7 h8 h9 h10 h11 h12 h13 h.2
local macro_rules | `(tactic| o_law) => `(tactic| (refine holds_law said (fun said => ?_)))
local macro_rules | `(tactic| o_head $H) => `(tactic| (refine holds_both (q := qQ) (loose := looseQ) (Xt := fun s => xlAt qQ [] s && recOk (RowW.records PySem.Challenge.rw_pq1168_01.row.toRowW) s) (XP := XL qQ []) (Yf := Hook.obs $H) (Ya := Hook.val $H) (YP := Hook.says $H) (N := 12000) (Hook.of $H) (Hook.keeps $H) (fun s e => xl_of s (Bool.and_eq_true_iff.mp e).1) XL.keeps (by rfl) (by rfl) (by rfl) (fun s e => recFacts_of (Bool.and_eq_true_iff.mp e).2) (by rfl) (by assumption) (by decide +kernel) ⟨rfl, rfl, rfl, rfl, rfl, by decide +kernel⟩ ?hw ?hc))
set_option maxRecDepth 100000 in
set_option maxHeartbeats 8000000 in
open_top hd for PySem.Challenge.rw_pq1168_01
section

open PySem.W.Fast
noncomputable def lookT (s : SharedT) (a : Addr) : Option Obj := match Nat.blt a s.n with
  | true => match s.tree.get a with
    | some o => alive o
    | none => none
  | false => none
theorem lookT_get {s : SharedT} {a : Addr} {o : Obj} (h : lookT s a = some o) : s.abs.heap.get? a = some o := by
  unfold lookT at h
  split at h
  · rename_i e
    split at h
    · rename_i o' g
      exact (abs_get (Nat.le_of_ble_eq_true e) g).trans h
    · cases h
  · cases h
theorem look_map {β : Type} {s : SharedT} {g : β → Obj} : ∀ {as : List Addr} {m : List β}, as.map (lookT s) = m.map (fun p => some (g p)) → as.map s.abs.heap.get? = m.map (fun p => some (g p))
  | [], [], _ => rfl
  | [], _ :: _, h => by cases h
  | _ :: _, [], h => by cases h
  | a :: as, p :: m, h => by
    rw [List.map_cons, List.map_cons] at h ⊢
    injection h with h1 h2
    rw [lookT_get h1, look_map h2]
noncomputable def seenK (p q : Program) (loose : List Str) (Xt : Shared → Bool) (as ts : List Addr) (w : World) (s : SharedT) :=
  ((staticsOk (importedModules p.main.body) (boot_heap w.params) s.abs.heap && namesBound p s.abs.heap && gensDone s.abs && laidKept (boot_heap w.params) s.abs.heap),
    tw4187177175401517315 q loose (importedModules p.main.body) Xt true s.abs, (as.map (lookT s), ts.map (lookT s)))
theorem leftK_of {p q : Program} {loose : List Str} {Xt : Shared → Bool} {K : Params → Frag} {as : List Addr} {e : ∀ P, as = (K P).map (·.1)} {ts : List Addr} {N : Nat}
    (hopen : ∀ w : World, (fencedOpening treeTable p w N).map (fun s => (s.heap, s.gens, s.drawn, s.toks)) = some (boot_heap w.params, #[], boot_drawn, boot_toks))
    (chk : ∀ (w : World) (a b : Bool) (os : OsState), (runQ p (w4 w a b) (some (.ref 6)) N (S0 (w4 w a b) os) (topStub p)).map (seenK p q loose Xt as ts (w4 w a b)) = some (true, openGood q loose, (kmHook K as e ts).val (w4 w a b))) :
    LeftO p q loose Xt (kmHook K as e ts).obs (kmHook K as e ts).val N :=
  left_of hopen fun w a b os => by
    obtain ⟨s, hs, h⟩ := Option.map_eq_some_iff.mp (chk w a b os)
    rw [hs]
    unfold seenK at h
    obtain ⟨h1, h⟩ := Prod.mk.inj h
    obtain ⟨h2, h⟩ := Prod.mk.inj h
    obtain ⟨h3, h4⟩ := Prod.mk.inj h
    refine congrArg some ?_
    unfold seenQ
    rw [h1, h2]
    refine congrArg (fun x => (true, openGood q loose, x)) ?_
    exact Prod.ext (look_map h3) (look_map (g := fun _ => tabObj #[]) h4)
def asQ : List Addr := [2, 3, 15, 17, 18, 20, 21, 22, 29, 31, 32, 34, 35, 36, 37, 38, 39, 42, 49, 50, 51, 54, 61, 62, 63, 66, 73, 74, 75, 78, 79, 80, 81, 82, 83, 84, 92, 94, 95, 97, 98, 99, 101, 102, 104, 105, 106, 108, 109, 111, 112, 113, 114, 115, 116, 117, 127, 128, 130, 131, 133, 134, 135, 137, 138, 140, 141, 142, 144, 145, 147, 148, 149, 150, 151, 152, 153, 156, 158, 159, 161, 162, 163, 166, 167, 168, 170, 171, 173, 174, 175, 177, 178, 180, 181, 182, 184, 185, 187, 188, 189, 191, 192, 194, 195, 196, 198, 199, 201, 202, 203, 205, 206, 208, 209, 210, 212, 213, 215, 216, 217, 219, 220, 222, 223, 224, 226, 227, 229, 230, 231, 233, 234, 236, 237, 238, 241, 242, 243, 245, 246, 248, 249, 250, 252, 253, 255, 256, 257, 259, 260, 262, 263, 264, 267, 268, 269, 271, 272, 274, 275, 276, 278, 279, 281, 282, 283, 285, 286, 288, 289, 290, 292, 293, 295, 296, 297, 299, 300, 302, 303, 311, 312, 314, 315, 317, 318, 319, 321, 322, 324, 325, 326, 327, 328, 329, 330, 333, 335, 336, 338, 339, 340, 342, 343, 345, 346, 441, 442, 444, 445, 447, 448, 449, 452, 453, 454, 462, 464, 465, 467, 468, 469, 471, 472, 474, 475, 476, 477, 478, 479, 480, 490, 492, 493, 495, 496, 497, 500, 501, 502, 503, 505, 506, 508, 509, 510, 511, 512, 513, 514, 517, 519, 520, 522, 523, 524, 526, 527, 529, 530, 531, 532, 535, 536, 537, 539, 540, 542, 543, 544, 546, 547, 549, 550, 551, 552, 554, 555, 557, 558, 566, 568, 569, 571, 572, 573, 575, 576, 578, 579, 580, 581, 582, 583, 584, 587, 589, 590, 592, 593, 594, 596, 597, 599, 600, 601, 603, 604, 606, 607, 608, 610, 611, 613, 614, 622, 624, 625, 627, 628, 629, 630, 631, 632, 633, 636, 639, 640, 641, 644, 645, 646, 648, 649, 651, 652, 660, 662, 663, 665, 666, 667, 670, 671, 672, 674, 675, 677, 678, 679, 680, 681, 682, 683, 686, 688, 689, 691, 692, 700, 701, 703, 704, 706, 707, 708, 709, 710, 711, 712, 722, 724, 725, 727, 728, 729, 731, 732, 734, 735, 736, 739, 740, 741, 742, 743, 744, 745, 755, 756, 758, 759, 761, 762, 763, 765, 766, 768, 769, 770, 772, 773, 775, 776, 777, 779, 780, 782, 783, 784, 786, 787, 789, 790, 791, 793, 794, 796, 797, 798, 800, 801, 803, 804, 805, 807, 808, 810, 811, 812, 814, 815, 817, 818, 819, 820, 821, 822, 823, 826, 828, 829, 831, 832, 833, 835, 836, 838, 839, 840, 842, 843, 845, 846, 847, 849, 850, 852, 853, 854, 856, 857, 859, 860, 861, 863, 864, 866, 867, 868, 870, 871, 873, 874, 875, 877, 878, 880, 881, 882, 884, 885, 887, 888, 889, 892, 893, 894, 896, 897, 899, 900, 901, 904, 905]
set_option maxRecDepth 100000 in
theorem asQ_is (P : Params) : asQ = (hd.heap_1 P).map (·.1) := by kernel_rfl
noncomputable abbrev hookQ : Hook := kmHook hd.heap_1 asQ asQ_is [890, 883]
noncomputable abbrev XtQ : Shared → Bool := fun s => xlAt qQ [] s && recOk (RowW.records PySem.Challenge.rw_pq1168_01.row.toRowW) s
abbrev Chk (a b : Bool) : Prop := ∀ (w : World) (os : OsState), (runQ PySem.Challenge.rw_pq1168_01.row.prog (w4 w a b) (some (.ref 6)) 12000 (S0 (w4 w a b) os) (topStub PySem.Challenge.rw_pq1168_01.row.prog)).map (seenK PySem.Challenge.rw_pq1168_01.row.prog qQ looseQ XtQ asQ [890, 883] (w4 w a b)) = some (true, openGood qQ looseQ, hookQ.val (w4 w a b))
set_option maxRecDepth 100000 in
theorem open_is (w : World) : (fencedOpening treeTable PySem.Challenge.rw_pq1168_01.row.prog w 12000).map (fun s => (s.heap, s.gens, s.drawn, s.toks)) = some (boot_heap w.params, #[], boot_drawn, boot_toks) := by kernel_rfl
set_option maxRecDepth 100000 in
theorem chk_ff : Chk false false := by intro w os; kernel_rfl
set_option maxRecDepth 100000 in
theorem chk_tf : Chk true false := by intro w os; kernel_rfl
set_option maxRecDepth 100000 in
theorem chk_ft : Chk false true := by intro w os; kernel_rfl
set_option maxRecDepth 100000 in
theorem chk_tt : Chk true true := by intro w os; kernel_rfl
theorem left : LeftO PySem.Challenge.rw_pq1168_01.row.prog qQ looseQ XtQ hookQ.obs hookQ.val 12000 :=
  leftK_of open_is fun w a b os => match a, b with
    | false, false => chk_ff w os
    | false, true => chk_ft w os
    | true, false => chk_tf w os
    | true, true => chk_tt w os
end
end
section
set_option maxHeartbeats 4000000
section
open PyProof.V
-- C0
section
variable {prog : Program} {w : World} {A A₀ : Around} {E : Value → Shared → Prop} {s : Shared} {K : Frag} {C L : Addr} {h₀ base : Heap} {m mg mb : Str → Option Value} {mine rest : List (Addr × Obj)} {p : Program} {loose : List Str} {mean : ExcName → Option Value}
theorem rest_up {g h : Heap} {L' : Addr} {m' : Str → Option Value} (R : News h₀ L g rest) (F : Fr g L' h m') : News h₀ L h rest := fun q hq => ⟨F.keep _ _ (R q hq).1, (R q hq).2⟩
theorem news_left {h : Heap} {a b : List (Addr × Obj)} (x : News h₀ L h (a ++ b)) : News h₀ L h a := fun q hq => x q (List.mem_append_left _ hq)
/-- a def's call whose frame sees the objects 'mine' alone; the rest of the caller's ledger is kept as it stands -/
theorem code_split {G : Heap} {l : Addr} {env : Env} {outer : List Env} {R : Result → Shared → Prop} {name qual : Str} {params : Arguments} {body : List Stmt} {scope : Scope} {dV kV doc pm cdv ct oc : Value} {an od : Option Addr} {osl : Array (Option Value)} {f : Addr} {args : Args} {binds : List (Str × Value)}
    (B : Below A₀ base outer h₀) (F : Fr h₀ L s.heap m) (X₀ : K.In h₀) (N : News h₀ L s.heap (mine ++ rest)) (hap : ∀ q ∈ rest, q.1 ∉ mine.map (·.1)) (T : Top p loose mean mg mb h₀) (hA : A.frames = some (env :: outer)) (hf : env.frame = some L) (hke : env.scope.kind = .function)
    (ho : K.lookup f = some ⟨oc, od, .func (fnOf name qual params body scope dV kV doc pm an cdv ct), osl⟩) (hcd : codeIn K cdv qual = true) (hroom : A.depth < recursionLimit)
    (hbind : BindsTo s (fnOf name qual params body scope dV kV doc pm an cdv ct) args binds) (hloc : ∀ y ∈ binds, scope.names.lookup y.1 = some .local)
    (h : ∀ h₁, Fr h₀ L G m → News h₀ L G rest → Fr G l h₁ (fun y => binds.reverse.lookup y) → News G l h₁ mine → Below A base (env :: outer) G → K.In G → Top p loose mean mg mb G →
      wpAny (model prog w) (A.deeper (envOf qual scope l f cdv)) (execs body (envOf qual scope l f cdv))
        (fun fl s' => LeaveK h₀ L m G R (match fl with | .ret v => v | _ => .none) s')
        (fun e s' => wpAny (model prog w) (A.deeper (envOf qual scope l f cdv)) (leaving (envOf qual scope l f cdv) e) (fun _ s'' => R (.error e) s'') (fun e' s'' => R (.error e') s'') s')
        { s with heap := h₁, toks := s.toks + binds.length })
    (hco : scope.isCoroutine = false) (hgen : scope.isGenerator = false) (hk : scope.kind = .function)
    (hcell : ∀ x ∈ scope.names, x.2 ≠ .cell) (hG : G = hideAll s.heap (mine.map (·.1))) (hl : l = s.heap.objs.size) : codeAny (model prog w) A (.call (.ref f) args) R s := by
  subst hG hl
  have Nm : News h₀ L s.heap mine := news_left N
  obtain ⟨FG, BG, st, lv⟩ := groundX (R := R) B F Nm hA hf hke
  refine codeAny_call_def (fd := fnOf name qual params body scope dV kV doc pm an cdv ct) (body := body) (binds := binds) hroom (F.keep _ _ (X₀ _ _ ho)) rfl (T.nolimit.keeps F.keep) (codeRec_of (X₀.keeps F.keep) hcd) rfl hbind hcell hloc (fun h₁ hns hk₁ => ?_) hco hgen hk
  refine wpAny_mono (h h₁ FG (fun q hq => ⟨hideAll_get _ (N q (List.mem_append_right _ hq)).1 (hap q hq), (N q (List.mem_append_right _ hq)).2⟩) ⟨hns, fun b o e => hk₁ b o (of_hideAll _ e), Nat.le_of_eq (hideAll_size _ _)⟩
    (fun q hq => ⟨hk₁ _ _ (Nm q hq).1, Nat.ne_of_lt (Heap.lt_size (Nm q hq).1), hideAll_none _ (List.mem_map_of_mem hq)⟩) BG (X₀.keeps st) (T.keeps st)) (fun fl s' hl => lv _ _ hl) fun _ _ y => y
theorem code_splitC {G : Heap} {l : Addr} {env : Env} {outer : List Env} {R : Result → Shared → Prop} {name qual : Str} {params : Arguments} {body : List Stmt} {scope : Scope} {dV kV doc pm cdv ct oc : Value} {an od : Option Addr} {osl : Array (Option Value)} {f : Addr} {args : Args} {binds : List (Str × Value)}
    (B : Below A₀ base outer h₀) (F : Fr h₀ L s.heap m) (X₀ : K.In h₀) (N : News h₀ L s.heap (mine ++ rest)) (hap : ∀ q ∈ rest, q.1 ∉ mine.map (·.1)) (T : Top p loose mean mg mb h₀) (hA : A.frames = some (env :: outer)) (hf : env.frame = some L) (hke : env.scope.kind = .function)
    (ho : K.lookup f = some ⟨oc, od, .func (fnOf name qual params body scope dV kV doc pm an cdv ct), osl⟩) (hcd : codeIn K cdv qual = true) (hroom : A.depth < recursionLimit)
    (hbind : BindsTo s (fnOf name qual params body scope dV kV doc pm an cdv ct) args binds) (hkind : (binds.all fun y => scope.names.lookup y.1 == some .local || scope.names.lookup y.1 == some .cell) = true)
    (hnd : ((cellsFrom 0 scope.names []).map (·.1)).Nodup)
    (h : ∀ h₁ tk cells, Fr h₀ L G m → News h₀ L G rest → Fr G l h₁ (bindL (envOfC qual scope l f cdv).kindOf binds fun _ => none) → News G l h₁ (cells ++ mine) →
      CellsAre (bindC (envOfC qual scope l f cdv).kindOf binds fun _ => none) (cellsFrom (l + 1) scope.names []) cells → Below A base (env :: outer) G → K.In G → Top p loose mean mg mb G → (∀ q ∈ mine, q.1 < l) →
      wpAny (model prog w) (A.deeper (envOfC qual scope l f cdv)) (execs body (envOfC qual scope l f cdv))
        (fun fl s' => LeaveK h₀ L m G R (match fl with | .ret v => v | _ => .none) s')
        (fun e s' => wpAny (model prog w) (A.deeper (envOfC qual scope l f cdv)) (leaving (envOfC qual scope l f cdv) e) (fun _ s'' => R (.error e) s'') (fun e' s'' => R (.error e') s'') s')
        { s with heap := h₁, toks := tk })
    (hco : scope.isCoroutine = false) (hgen : scope.isGenerator = false) (hk : scope.kind = .function) (hG : G = hideAll s.heap (mine.map (·.1))) (hl : l = s.heap.objs.size) : codeAny (model prog w) A (.call (.ref f) args) R s := by
  subst hG hl
  have Nm : News h₀ L s.heap mine := news_left N
  obtain ⟨FG, BG, st, lv⟩ := groundX (R := R) B F Nm hA hf hke
  refine codeAny_call_function hroom (F.keep _ _ (X₀ _ _ ho)) rfl hco hgen rfl (codeRec_of (X₀.keeps F.keep) hcd) (hbind _ _ _ _ ?_)
  refine wpAny_newFunctionEnv_cells hk (kindsX hkind _) fun env' he s' x => ?_
  subst he
  refine ⟨(T.nolimit.keeps F.keep).keeps x.toInCall.keep, codeAny_func ?_⟩
  obtain ⟨h₁, tk, rfl, _⟩ := x.done
  have hk₁ := x.toInCall.keep
  obtain ⟨cells, NC, Y⟩ := Cl.news (h₀ := s.heap) (Nat.le_refl _) fun n c hm => ⟨x.cell n c (lookup_of_mem_nodup (cellsFrom_names scope.names 0 (s.heap.objs.size + 1) [] [] rfl ▸ hnd) hm), x.above n c hm⟩
  refine wpAny_mono (h h₁ tk cells FG (fun q hq => ⟨hideAll_get _ (N q (List.mem_append_right _ hq)).1 (hap q hq), (N q (List.mem_append_right _ hq)).2⟩) ⟨x.toInCall.ns, fun b o e => hk₁ b o (of_hideAll _ e), Nat.le_of_eq (hideAll_size _ _)⟩ (fun q hq => ?_) Y BG (X₀.keeps st) (T.keeps st) (fun q hq => Heap.lt_size (Nm q hq).1)) (fun fl s' hl => lv _ _ hl) fun _ _ y => y
  rcases List.mem_append.mp hq with hq | hq
  · refine ⟨(NC q hq).1, (NC q hq).2.1, ?_⟩
    cases e : (hideAll s.heap (mine.map (·.1))).get? q.1 with
    | none => rfl
    | some o => have := of_hideAll _ e; rw [(NC q hq).2.2] at this; cases this
  · exact ⟨hk₁ _ _ (Nm q hq).1, Nat.ne_of_lt (Heap.lt_size (Nm q hq).1), hideAll_none _ (List.mem_map_of_mem hq)⟩
theorem code_pureC {G : Heap} {l : Addr} {env : Env} {outer : List Env} {R : Result → Shared → Prop} {name qual : Str} {params : Arguments} {body : List Stmt} {scope : Scope} {dV kV doc pm cdv ct oc : Value} {an od : Option Addr} {osl : Array (Option Value)} {f : Addr} {args : Args} {binds : List (Str × Value)}
    (B : Below A₀ base outer h₀) (F : Fr h₀ L s.heap m) (X₀ : K.In h₀) (N : News h₀ L s.heap rest) (T : Top p loose mean mg mb h₀) (hA : A.frames = some (env :: outer)) (hf : env.frame = some L) (hke : env.scope.kind = .function)
    (ho : K.lookup f = some ⟨oc, od, .func (fnOf name qual params body scope dV kV doc pm an cdv ct), osl⟩) (hcd : codeIn K cdv qual = true) (hroom : A.depth < recursionLimit)
    (hbind : BindsTo s (fnOf name qual params body scope dV kV doc pm an cdv ct) args binds) (hkind : (binds.all fun y => scope.names.lookup y.1 == some .local || scope.names.lookup y.1 == some .cell) = true)
    (hnd : ((cellsFrom 0 scope.names []).map (·.1)).Nodup)
    (h : ∀ h₁ tk cells, Fr h₀ L G m → News h₀ L G rest → Fr G l h₁ (bindL (envOfC qual scope l f cdv).kindOf binds fun _ => none) → News G l h₁ cells →
      CellsAre (bindC (envOfC qual scope l f cdv).kindOf binds fun _ => none) (cellsFrom (l + 1) scope.names []) cells → Below A base (env :: outer) G → K.In G → Top p loose mean mg mb G →
      wpAny (model prog w) (A.deeper (envOfC qual scope l f cdv)) (execs body (envOfC qual scope l f cdv))
        (fun fl s' => LeaveK h₀ L m G R (match fl with | .ret v => v | _ => .none) s')
        (fun e s' => wpAny (model prog w) (A.deeper (envOfC qual scope l f cdv)) (leaving (envOfC qual scope l f cdv) e) (fun _ s'' => R (.error e) s'') (fun e' s'' => R (.error e') s'') s')
        { s with heap := h₁, toks := tk })
    (hco : scope.isCoroutine = false) (hgen : scope.isGenerator = false) (hk : scope.kind = .function) (hG : G = hideAll s.heap ([])) (hl : l = s.heap.objs.size) : codeAny (model prog w) A (.call (.ref f) args) R s :=
  code_splitC (mine := []) B F X₀ N (fun _ _ q => nomatch q) T hA hf hke ho hcd hroom hbind hkind hnd (fun h₁ tk cells FG R' F' N' Y B' X' T' _ => h h₁ tk cells FG R' F' (by rw [List.append_nil] at N'; exact N') Y B' X' T') hco hgen hk hG hl
theorem code_pure {G : Heap} {l : Addr} {env : Env} {outer : List Env} {R : Result → Shared → Prop} {name qual : Str} {params : Arguments} {body : List Stmt} {scope : Scope} {dV kV doc pm cdv ct oc : Value} {an od : Option Addr} {osl : Array (Option Value)} {f : Addr} {args : Args} {binds : List (Str × Value)}
    (B : Below A₀ base outer h₀) (F : Fr h₀ L s.heap m) (X₀ : K.In h₀) (N : News h₀ L s.heap rest) (T : Top p loose mean mg mb h₀) (hA : A.frames = some (env :: outer)) (hf : env.frame = some L) (hke : env.scope.kind = .function)
    (ho : K.lookup f = some ⟨oc, od, .func (fnOf name qual params body scope dV kV doc pm an cdv ct), osl⟩) (hcd : codeIn K cdv qual = true) (hroom : A.depth < recursionLimit)
    (hbind : BindsTo s (fnOf name qual params body scope dV kV doc pm an cdv ct) args binds) (hloc : ∀ y ∈ binds, scope.names.lookup y.1 = some .local)
    (h : ∀ h₁, Fr h₀ L G m → News h₀ L G rest → Fr G l h₁ (fun y => binds.reverse.lookup y) → News G l h₁ [] → Below A base (env :: outer) G → K.In G → Top p loose mean mg mb G →
      wpAny (model prog w) (A.deeper (envOf qual scope l f cdv)) (execs body (envOf qual scope l f cdv))
        (fun fl s' => LeaveK h₀ L m G R (match fl with | .ret v => v | _ => .none) s')
        (fun e s' => wpAny (model prog w) (A.deeper (envOf qual scope l f cdv)) (leaving (envOf qual scope l f cdv) e) (fun _ s'' => R (.error e) s'') (fun e' s'' => R (.error e') s'') s')
        { s with heap := h₁, toks := s.toks + binds.length })
    (hco : scope.isCoroutine = false) (hgen : scope.isGenerator = false) (hk : scope.kind = .function)
    (hcell : ∀ x ∈ scope.names, x.2 ≠ .cell) (hG : G = hideAll s.heap ([])) (hl : l = s.heap.objs.size) : codeAny (model prog w) A (.call (.ref f) args) R s :=
  code_split (mine := []) B F X₀ N (fun _ _ q => nomatch q) T hA hf hke ho hcd hroom hbind hloc h hco hgen hk hcell hG hl
end

-- a comprehension over a downward range
section
variable {prog : Program} {w : World} {A : Around} {E : Value → Shared → Prop} {s : Shared} {h₀ : Heap} {L : Addr} {m : Str → Option Value} {env : Env}
theorem down_walks {I : Addr} (hh : A.handled = none) (a : Int) (n : Nat) : Walks prog w A I [I] [I] n (fun i v => ∃ t, v = .int (a - (i : Int)) t) (fun i h => IsRangeIter h I (a + (i : Nat) * (-1)) ((n : Int) - (i : Nat)) (-1)) :=
  let W : Walks prog w A I [I] [I] n (fun i v => i < n ∧ ∃ t, v = .int (a + i * (-1)) t) (fun i h => IsRangeIter h I (a + (i : Nat) * (-1)) ((n : Int) - (i : Nat)) (-1)) := (Walks.range hh I a (-1) n).bound
  { sub := W.sub, frame := W.frame, done := W.done, self := W.self,
    item := fun i s Q E hi st hQ => W.item i s Q E hi st fun v h' tk hP => hQ v h' tk (by obtain ⟨_, t, rfl⟩ := hP; exact ⟨t, by rw [show a + (i : Int) * (-1) = a - (i : Int) by omega]⟩) }
theorem down_st {I : Addr} {a : Int} {n : Nat} : ∀ i (h h' : Heap) (o : Obj) (nw : List (Addr × Obj)), IsRangeIter h I (a + (i : Nat) * (-1)) ((n : Int) - (i : Nat)) (-1) → h.get? I = some o → h'.get? I = some o → (∀ b o, h₀.get? b = some o → h'.get? b = some o) → News h₀ L h' nw → True → IsRangeIter h' I (a + (i : Nat) * (-1)) ((n : Int) - (i : Nat)) (-1) :=
  fun i h h' o nw st e e' _ _ _ => by
    have st' : h.get? I = some _ := st
    show h'.get? I = some _
    rw [e', ← e]; exact st'
end

section
variable {prog : Program} {w : World} {A : Around} {E : Value → Shared → Prop} {s : Shared} {h₀ : Heap} {L D : Addr} {m : Str → Option Value} {news : List (Addr × Obj)} {vs : List Value} {ns : List Int}
theorem bytes_mk {Q : Value → Shared → Prop} (F : Fr h₀ L s.heap m) (N : News h₀ L s.heap news) (hh : A.handled = none) (hl : s.heap.IsList D vs.toArray) (hi : IntsAre vs ns) (hr : ∀ n ∈ ns, 0 ≤ n ∧ n < 256) (hn : ns.length ≤ 16777216)
    (h : ∀ b h' t' k, KBw.bInts b = ns → Fr h₀ L h' m → News h₀ L h' news → Q (.bytes b t') { s with heap := h', toks := k }) : wpAny (model prog w) A (call (.type "bytes") [.ref D]) Q E s :=
  KBa.make_K F N hh hl hi hr hn fun h' t' k F' N' I => h _ h' t' k (KBa.ints_make I) F' N'
end
theorem fdp (n e : Int) : n.fdiv (2 ^ e.toNat) = n / 2 ^ e.toNat := Int.fdiv_eq_ediv_of_nonneg _ (Int.pow_nonneg (by decide))
theorem fm (a : Int) {k : Int} (h : 0 < k) : a.fmod k = a % k := Int.fmod_eq_emod_of_nonneg _ (Int.le_of_lt h)
theorem fd (a : Int) {k : Int} (h : 0 < k) : a.fdiv k = a / k := Int.fdiv_eq_ediv_of_nonneg _ (Int.le_of_lt h)
-- Q0
noncomputable def hk {α : Type} (ne : Nonempty α) (P : α → Prop) : α := @Classical.epsilon α ne (fun x => ¬ P x)
theorem hk2 {α : Type} {c : α} {P : α → Prop} (ne : Nonempty α) (hc : c = hk ne P) (h : P c) (x : α) : P x := by
  apply Classical.byContradiction
  intro hx
  subst hc
  exact Classical.epsilon_spec (p := fun x => ¬ P x) ⟨x, hx⟩ h
structure PK where
  (w : World) (p : Program) (loose : List Str) (mean : ExcName → Option Value) (mg mb : Str → Option Value) (dp un : Nat) (gd : Option (List Code)) (cn : Str) (cs : Scope) (a : Addr) (ccd : Value) (cl : List (Str × Addr)) (outer : List Env) (A₀ : Around) (base h₀ : Heap) (L : Addr) (m : Str → Option Value) (s : Shared) (Q E : Value → Shared → Prop) (rest : List (Addr × Obj))
noncomputable def pk0 : PK := ⟨⟨fun _ _ => 0, { strHash := fun _ => 0, shareClass := fun _ => 0, mergeTok := id, idOf := fun _ => 0, idOfShared := fun _ _ => 0, followText := fun _ => false, idOfImm := fun _ => 0 }⟩, default, [], fun _ => none, fun _ => none, fun _ => none, 0, 0, none, default, default, 0, .none, [], [], {}, {}, {}, 0, fun _ => none, {}, fun _ _ => True, fun _ _ => True, []⟩
section PEsec
/-- e is evaluated without a change of the heap; its value is f at some token -/
structure PE (prog : Program) (w : World) (A : Around) (env : Env) (h : Heap) (e : PySem.Expr) (f : Tok → Value) : Prop where
  go : ∀ (s : Shared) (Q : Value → Shared → Prop) (E : Value → Shared → Prop), s.heap = h → (∀ t k, Q (f t) { s with toks := k }) → wpAny (model prog w) A (eval e env) Q E s
structure PT (prog : Program) (w : World) (A : Around) (env : Env) (h : Heap) (e : PySem.Expr) (b : Bool) : Prop where
  go : ∀ (s : Shared) (Q : Bool → Shared → Prop) (E : Value → Shared → Prop), s.heap = h → (∀ k, Q b { s with toks := k }) → wpAny (model prog w) A (isTrue e env (eval e env)) Q E s
variable {prog : Program} {w : World} {A : Around} {env : Env} {h : Heap} {l r : PySem.Expr} {a b : Int} {pos : Pos}
theorem PE.int {n : Int} {k : Nat} : PE prog w A env h (.Constant (.int n) k pos) (fun t => .int n t) := ⟨fun _ _ _ _ q => wpAny_Constant_int (q _ _)⟩
theorem PE.str {x : Str} {k : Nat} : PE prog w A env h (.Constant (.str x) k pos) (fun t => .str x t) := ⟨fun _ _ _ _ q => Calls.Constant_str (q _ _)⟩
theorem PE.none {k : Nat} : PE prog w A env h (.Constant .none k pos) (fun _ => .none) := ⟨fun s _ _ _ q => wpAny_Constant_none (q 0 s.toks)⟩
theorem PE.bool {c : Bool} {k : Nat} : PE prog w A env h (.Constant (.bool c) k pos) (fun _ => .bool c) := ⟨fun s _ _ _ q => Constant_bool (q 0 s.toks)⟩
theorem PE.bin {op : Operator} {f g k : Tok → Value} (a : PE prog w A env h l f) (b : PE prog w A env h r g)
    (o : ∀ (t u : Tok) (s : Shared) (Q : Value → Shared → Prop) (E : Value → Shared → Prop), (∀ t' k', Q (k t') { s with toks := k' }) → wpAny (model prog w) A (binaryOp op (f t) (g u)) Q E s) : PE prog w A env h (.BinOp l op r pos) k :=
  ⟨fun s _ E e q => wpAny_BinOp (a.go s _ E e fun t k => b.go { s with toks := k } _ E e fun u k' => o t u { s with toks := k' } _ E q)⟩
theorem PE.cmp {op : CmpOp} {f g : Tok → Value} {c : Bool} (a : PE prog w A env h l f) (b : PE prog w A env h r g)
    (o : ∀ (t u : Tok) (s : Shared) (Q : Value → Shared → Prop) (E : Value → Shared → Prop), Q (.bool c) s → wpAny (model prog w) A (compareOp op (f t) (g u)) Q E s) (m : behindInMarks op r = false) : PT prog w A env h (.Compare l [op] [r] pos) c :=
  ⟨fun s _ E e q => wpAny_isTrue_Compare1 (a.go s _ E e fun t k => b.go { s with toks := k } _ E e fun u k' => o t u { s with toks := k' } _ E (wpAny_truthy_bool (q k'))) m⟩
theorem PT.or {x : PySem.Expr} {rest : List PySem.Expr} {b c : Bool} (a : PT prog w A env h x b) (r : PT prog w A env h (.BoolOp .Or rest pos) c) : PT prog w A env h (.BoolOp .Or (x :: rest) pos) (b || c) :=
  ⟨fun s _ E e q => isTrue_or (a.go s _ E e fun k => by cases b with
    | true => exact q k
    | false => exact r.go { s with toks := k } _ E e q)⟩
theorem PT.and {x : PySem.Expr} {rest : List PySem.Expr} {b c : Bool} (a : PT prog w A env h x b) (r : PT prog w A env h (.BoolOp .And rest pos) c) : PT prog w A env h (.BoolOp .And (x :: rest) pos) (b && c) :=
  ⟨fun s _ E e q => isTrue_and (a.go s _ E e fun k => by cases b with
    | true => exact r.go { s with toks := k } _ E e q
    | false => exact q k)⟩
theorem PT.or_nil : PT prog w A env h (.BoolOp .Or [] pos) false := ⟨fun s _ _ _ q => isTrue_or_nil (q s.toks)⟩
theorem PT.and_nil : PT prog w A env h (.BoolOp .And [] pos) true := ⟨fun s _ _ _ q => isTrue_and_nil (q s.toks)⟩
theorem PT.not {x : PySem.Expr} {b : Bool} (a : PT prog w A env h x b) : PT prog w A env h (.UnaryOp .Not x pos) (!b) := ⟨fun s _ E e q => isTrue_not (a.go s _ E e q)⟩
theorem PT.chain {r₁ r₂ : PySem.Expr} {o₁ o₂ : CmpOp} {f g k : Tok → Value} {b c : Bool} (a : PE prog w A env h l f) (x : PE prog w A env h r₁ g) (y : PE prog w A env h r₂ k)
    (p : ∀ (t u : Tok) (s : Shared) (Q : Value → Shared → Prop) (E : Value → Shared → Prop), Q (.bool b) s → wpAny (model prog w) A (compareOp o₁ (f t) (g u)) Q E s)
    (p' : ∀ (t u : Tok) (s : Shared) (Q : Value → Shared → Prop) (E : Value → Shared → Prop), Q (.bool c) s → wpAny (model prog w) A (compareOp o₂ (g t) (k u)) Q E s)
    (m : lastMarks [o₁, o₂] [r₁, r₂] = false) : PT prog w A env h (.Compare l [o₁, o₂] [r₁, r₂] pos) (b && c) :=
  ⟨fun s _ E e q => isTrue_chain (a.go s _ E e fun t k => test_link (x.go { s with toks := k } _ E e fun u k' => p t u { s with toks := k' } _ E (wpAny_truthy_bool (by
    cases b with
    | true => exact test_last (y.go { s with toks := k' } _ E e fun u' k'' => p' u u' { s with toks := k'' } _ E (wpAny_truthy_bool (q k'')))
    | false => exact q k')))) m⟩
abbrev PI (prog : Program) (w : World) (A : Around) (env : Env) (h : Heap) (e : PySem.Expr) (n : Int) : Prop := PE prog w A env h e (fun t => .int n t)
theorem PE.add (x : PI prog w A env h l a) (y : PI prog w A env h r b) : PI prog w A env h (.BinOp l .Add r pos) (a + b) := x.bin y fun _ _ _ _ _ q => add_int (q _ _)
theorem PE.sub (x : PI prog w A env h l a) (y : PI prog w A env h r b) : PI prog w A env h (.BinOp l .Sub r pos) (a - b) := x.bin y fun _ _ _ _ _ q => PyProof.Rows.sub_int (q _ _)
theorem PE.and (x : PI prog w A env h l a) (y : PI prog w A env h r b) : PI prog w A env h (.BinOp l .BitAnd r pos) (Builtin.bitAnd a b) := x.bin y fun _ _ _ _ _ q => and_int (q _ _)
theorem PE.or (x : PI prog w A env h l a) (y : PI prog w A env h r b) : PI prog w A env h (.BinOp l .BitOr r pos) (Builtin.bitOr a b) := x.bin y fun _ _ _ _ _ q => or_int (q _ _)
theorem PE.shr (x : PI prog w A env h l a) (y : PI prog w A env h r b) (hb : 0 ≤ b) : PI prog w A env h (.BinOp l .RShift r pos) (a.fdiv (2 ^ b.toNat)) := x.bin y fun _ _ _ _ _ q => rshift_int hb (q _ _)
theorem PE.mod (x : PI prog w A env h l a) (y : PI prog w A env h r b) (hb : b ≠ 0) : PI prog w A env h (.BinOp l .Mod r pos) (a.fmod b) := x.bin y fun _ _ _ _ _ q => PyProof.Rows.mod_int hb (q _ _)
theorem PT.lt (x : PI prog w A env h l a) (y : PI prog w A env h r b) (m : behindInMarks .Lt r = false := by rfl) : PT prog w A env h (.Compare l [.Lt] [r] pos) (decide (a < b)) := x.cmp y (fun _ _ _ _ _ q => lt_int q) m
theorem PT.le (x : PI prog w A env h l a) (y : PI prog w A env h r b) (m : behindInMarks .LtE r = false := by rfl) : PT prog w A env h (.Compare l [.LtE] [r] pos) (decide (a ≤ b)) := x.cmp y (fun _ _ _ _ _ q => le_int q) m
theorem PT.gt (x : PI prog w A env h l a) (y : PI prog w A env h r b) (m : behindInMarks .Gt r = false := by rfl) : PT prog w A env h (.Compare l [.Gt] [r] pos) (decide (b < a)) := x.cmp y (fun _ _ _ _ _ q => gt_int q) m
theorem PT.ge (x : PI prog w A env h l a) (y : PI prog w A env h r b) (m : behindInMarks .GtE r = false := by rfl) : PT prog w A env h (.Compare l [.GtE] [r] pos) (decide (b ≤ a)) := x.cmp y (fun _ _ _ _ _ q => ge_int q) m
theorem PT.eq (x : PI prog w A env h l a) (y : PI prog w A env h r b) (m : behindInMarks .Eq r = false := by rfl) : PT prog w A env h (.Compare l [.Eq] [r] pos) (a == b) := x.cmp y (fun _ _ _ _ _ q => eq_int q) m
theorem PT.ne (x : PI prog w A env h l a) (y : PI prog w A env h r b) (m : behindInMarks .NotEq r = false := by rfl) : PT prog w A env h (.Compare l [.NotEq] [r] pos) (a != b) := x.cmp y (fun _ _ _ _ _ q => PyProof.Rows.ne_int q) m
theorem PT.in2 {r₁ r₂ : PySem.Expr} {c : Int} (x : PI prog w A env h l a) (y : PI prog w A env h r₁ b) (z : PI prog w A env h r₂ c) (m : lastMarks [.LtE, .Lt] [r₁, r₂] = false := by rfl) : PT prog w A env h (.Compare l [.LtE, .Lt] [r₁, r₂] pos) (decide (a ≤ b) && decide (b < c)) := .chain x y z (fun _ _ _ _ _ q => le_int q) (fun _ _ _ _ _ q => lt_int q) m
theorem PT.in3 {r₁ r₂ : PySem.Expr} {c : Int} (x : PI prog w A env h l a) (y : PI prog w A env h r₁ b) (z : PI prog w A env h r₂ c) (m : lastMarks [.LtE, .LtE] [r₁, r₂] = false := by rfl) : PT prog w A env h (.Compare l [.LtE, .LtE] [r₁, r₂] pos) (decide (a ≤ b) && decide (b ≤ c)) := .chain x y z (fun _ _ _ _ _ q => le_int q) (fun _ _ _ _ _ q => le_int q) m
end PEsec
section PEsec2
variable {prog : Program} {w : World} {A : Around} {h h₀ : Heap} {L a : Addr} {m mg mb : Str → Option Value} {cn : Str} {cs : Scope} {ccd : Value} {cl : List (Str × Addr)} {K : Frag} {p : Program} {loose : List Str} {x : Str} {pos : Pos} {v : Value} {n : Int} {t : Tok}
theorem PE.loc (F : Fr h₀ L h m) (hm : m x = some v) (hk : cs.kind = .function := by rfl) (hx : (envX cn cs L a ccd cl).kindOf x = some .local := by rfl) (hd : (x == ("__debug__" : Str)) = false := by rfl) : PE prog w A (envX cn cs L a ccd cl) h (.Name x pos) (fun _ => v) :=
  ⟨fun s _ _ e q => nameX_L (e ▸ F) hm (q 0 s.toks) hk hx hd⟩
theorem PE.locI (F : Fr h₀ L h m) (hm : m x = some (.int n t)) (hk : cs.kind = .function := by rfl) (hx : (envX cn cs L a ccd cl).kindOf x = some .local := by rfl) (hd : (x == ("__debug__" : Str)) = false := by rfl) : PE prog w A (envX cn cs L a ccd cl) h (.Name x pos) (fun t => .int n t) :=
  ⟨fun s _ _ e q => nameX_L (e ▸ F) hm (q t s.toks) hk hx hd⟩
theorem PE.glob (F : Fr h₀ L h m) (X : K.In h₀) (T : TopRead p loose mg mb h₀) (hm : nsIn K mainGlobals x = some (some v)) (hk : cs.kind = .function := by rfl) (hx : (envX cn cs L a ccd cl).kindOf x = some .globalImplicit := by rfl) (hd : (x == ("__debug__" : Str)) = false := by rfl) : PE prog w A (envX cn cs L a ccd cl) h (.Name x pos) (fun _ => v) :=
  ⟨fun s _ _ e q => nameX_K (e ▸ F) X T hm (q 0 s.toks) hk hx hd⟩
theorem PE.attr {news : List (Addr × Obj)} {o C dx : Addr} {es : List DictEntry} {k : Nat} {sl : Array (Option Value)} {name : Str} {attr : Option Value} {env : Env} {xp : Pos} (F : Fr h₀ L h m) (N : News h₀ L h news) (X : K.In h₀) (b : PE prog w A env h (.Name x xp) (fun _ => .ref o))
    (h1 : (o, ({ cls := .ref C, dict := some dx, slots := sl } : Obj)) ∈ news) (h2 : (dx, dictOf es k) ∈ news) (h3 : plainGet K C name = true) (h4 : hasDictIn K C = true) (h5 : findIn K (.ref C) name = some attr) (h6 : noGet K attr = true) (h7 : getL name es = some (some v)) (h8 : handedIn v = true)
    (hd : eval (.Attribute (.Name x xp) name pos) env = (do
          let o ← eval (.Name x xp) env
          standAt (Pos.atName pos)
          let r ← holding [o] (getAttr o name true)
          letTemporaryGo (.Name x xp) o r
          pure r) := by rfl) : PE prog w A env h (.Attribute (.Name x xp) name pos) (fun _ => v) :=
  ⟨fun s _ E e q => Attribute_Name_ (b.go s _ E e fun _ k => get_own (s := { s with toks := k }) (by rw [e]; exact F) X (by rw [e]; exact InstAt.of_news N h1 h2) h3 h4 h5 h6 h7 h8 (q 0 (k + 1))) hd⟩
theorem PE.lenB {b : Array UInt8} {tb : Tok} {ks : List Int} {e : PySem.Expr} {fp : Pos} (F : Fr h₀ L h m) (X : K.In h₀) (T : TopRead p loose mg mb h₀) (hm : nsIn K mainGlobals (Str.ofString "len") = some Option.none) (y : PE prog w A (envX cn cs L a ccd cl) h e (fun _ => .bytes b tb)) (hb : KBw.bInts b = ks) (hl : ks.length ≤ 1099511627776)
    (hk : cs.kind = .function := by rfl) (hx : (envX cn cs L a ccd cl).kindOf (Str.ofString "len") = some .globalImplicit := by rfl)
    (h1 : starEach [e] (envX cn cs L a ccd cl) = [(false, eval e (envX cn cs L a ccd cl))] := by rfl)
    (hc : eval (.Call (.Name (Str.ofString "len") fp) [e] [] pos) (envX cn cs L a ccd cl) = (do callWith pos (← eval (.Name (Str.ofString "len") fp) (envX cn cs L a ccd cl)) [] (backTo pos (starEach [e] (envX cn cs L a ccd cl))) (backToKw pos (keywordEach [] (envX cn cs L a ccd cl)))) := by rfl) :
    PE prog w A (envX cn cs L a ccd cl) h (.Call (.Name (Str.ofString "len") fp) [e] [] pos) (fun t => .int ks.length t) :=
  ⟨fun s _ E e' q => Call_ (nameX_B (e' ▸ F) X T hm boot_len (by decide) (PyProof.Rows.callWith_builtin1 (args_cons (y.go s _ E e' fun _ k => args_nil (KBw.len_K hb hl (q _ _))) h1) h1 rfl) hk hx) hc⟩
theorem PE.toI {e : PySem.Expr} {env : Env} (b : PE prog w A env h e (fun _ => .int n t)) : PE prog w A env h e (fun t => .int n t) := ⟨fun s _ E e q => b.go s _ E e fun _ k => q t k⟩
/-- a call of a def of the text, its arguments plain -/
theorem callP {args : List PySem.Expr} {fp : Pos} {f : Value} {Q : Value → Shared → Prop} {E : Value → Shared → Prop} {s : Shared} {e : PySem.Expr} (F : Fr h₀ L s.heap m) (X : K.In h₀) (T : TopRead p loose mg mb h₀) (hm : nsIn K mainGlobals x = some (some f)) (hkp : keepIn K f = true)
    (q : wpAny (model prog w) A (spliced (backTo pos (starEach (e :: args) (envX cn cs L a ccd cl)))) (fun vs s₁ => K.In s₁.heap ∧ wpAny (model prog w) A (call f ([] ++ vs)) Q E s₁) E s)
    (hk : cs.kind = .function := by rfl) (hx : (envX cn cs L a ccd cl).kindOf x = some .globalImplicit := by rfl) (hd : (x == ("__debug__" : Str)) = false := by rfl)
    (h1 : starEach (e :: args) (envX cn cs L a ccd cl) = (false, eval e (envX cn cs L a ccd cl)) :: starEach args (envX cn cs L a ccd cl) := by rfl) (h2 : ((backTo pos (starEach args (envX cn cs L a ccd cl))).any fun x => x.1) = false := by rfl)
    (hc : eval (.Call (.Name x fp) (e :: args) [] pos) (envX cn cs L a ccd cl) = (do callWith pos (← eval (.Name x fp) (envX cn cs L a ccd cl)) [] (backTo pos (starEach (e :: args) (envX cn cs L a ccd cl))) (backToKw pos (keywordEach [] (envX cn cs L a ccd cl)))) := by rfl) :
    wpAny (model prog w) A (eval (.Call (.Name x fp) (e :: args) [] pos) (envX cn cs L a ccd cl)) Q E s :=
  Call_ (nameX_K F X T hm (callWith_K X hkp q h1 h2) hk hx hd) hc
theorem callP1 {fp : Pos} {f : Value} {Q : Value → Shared → Prop} {E : Value → Shared → Prop} {s : Shared} {e : PySem.Expr} {g : Tok → Value} (F : Fr h₀ L s.heap m) (X : K.In h₀) (T : TopRead p loose mg mb h₀) (hm : nsIn K mainGlobals x = some (some f)) (hkp : keepIn K f = true)
    (b : PE prog w A (envX cn cs L a ccd cl) s.heap e g)
    (q : ∀ t k, wpAny (model prog w) A (call f [g t]) Q E { s with toks := k })
    (hk : cs.kind = .function := by rfl) (hx : (envX cn cs L a ccd cl).kindOf x = some .globalImplicit := by rfl) (hd : (x == ("__debug__" : Str)) = false := by rfl)
    (h1 : starEach [e] (envX cn cs L a ccd cl) = [(false, eval e (envX cn cs L a ccd cl))] := by rfl)
    (hc : eval (.Call (.Name x fp) [e] [] pos) (envX cn cs L a ccd cl) = (do callWith pos (← eval (.Name x fp) (envX cn cs L a ccd cl)) [] (backTo pos (starEach [e] (envX cn cs L a ccd cl))) (backToKw pos (keywordEach [] (envX cn cs L a ccd cl)))) := by rfl) :
    wpAny (model prog w) A (eval (.Call (.Name x fp) [e] [] pos) (envX cn cs L a ccd cl)) Q E s :=
  callP F X T hm hkp (args_cons (b.go s _ E rfl fun t k => args_nil ⟨X.keeps F.keep, q t k⟩) h1) hk hx hd h1 rfl hc
theorem callP2 {fp : Pos} {f : Value} {Q : Value → Shared → Prop} {E : Value → Shared → Prop} {s : Shared} {e e2 : PySem.Expr} {g g2 : Tok → Value} (F : Fr h₀ L s.heap m) (X : K.In h₀) (T : TopRead p loose mg mb h₀) (hm : nsIn K mainGlobals x = some (some f)) (hkp : keepIn K f = true)
    (b : PE prog w A (envX cn cs L a ccd cl) s.heap e g) (b2 : PE prog w A (envX cn cs L a ccd cl) s.heap e2 g2)
    (q : ∀ t t2 k, wpAny (model prog w) A (call f [g t, g2 t2]) Q E { s with toks := k })
    (hk : cs.kind = .function := by rfl) (hx : (envX cn cs L a ccd cl).kindOf x = some .globalImplicit := by rfl) (hd : (x == ("__debug__" : Str)) = false := by rfl)
    (h1 : starEach [e, e2] (envX cn cs L a ccd cl) = (false, eval e (envX cn cs L a ccd cl)) :: starEach [e2] (envX cn cs L a ccd cl) := by rfl) (h2 : starEach [e2] (envX cn cs L a ccd cl) = [(false, eval e2 (envX cn cs L a ccd cl))] := by rfl)
    (hc : eval (.Call (.Name x fp) [e, e2] [] pos) (envX cn cs L a ccd cl) = (do callWith pos (← eval (.Name x fp) (envX cn cs L a ccd cl)) [] (backTo pos (starEach [e, e2] (envX cn cs L a ccd cl))) (backToKw pos (keywordEach [] (envX cn cs L a ccd cl)))) := by rfl) :
    wpAny (model prog w) A (eval (.Call (.Name x fp) [e, e2] [] pos) (envX cn cs L a ccd cl)) Q E s :=
  callP F X T hm hkp (args_cons (b.go s _ E rfl fun t k => args_cons (b2.go { s with toks := k } _ E rfl fun t2 k2 => args_nil ⟨X.keeps F.keep, q t t2 k2⟩) h2) h1) hk hx hd h1 (by rw [h2]; rfl) hc
end PEsec2
section PEsec3
variable {prog : Program} {w : World} {A : Around} {env : Env} {s : Shared} {E : Value → Shared → Prop}
theorem PE.use {e : PySem.Expr} {f : Tok → Value} {Q : Value → Shared → Prop} (b : PE prog w A env s.heap e f) (q : ∀ t k, Q (f t) { s with toks := k }) : wpAny (model prog w) A (eval e env) Q E s := b.go s Q E rfl q
theorem PT.use {e : PySem.Expr} {c : Bool} {Q : Bool → Shared → Prop} (b : PT prog w A env s.heap e c) (q : ∀ k, Q c { s with toks := k }) : wpAny (model prog w) A (isTrue e env (eval e env)) Q E s := b.go s Q E rfl q
theorem xs_skip {test : PySem.Expr} {body rest : List Stmt} {pos : Pos} {c : Bool} {Q : Flow → Shared → Prop} (b : PT prog w A env s.heap test c) (hc : c = false) (q : ∀ k, wpAny (model prog w) A (execs rest env) Q E { s with toks := k }) :
    wpAny (model prog w) A (execs (.If test body [] pos :: rest) env) Q E s :=
  wpAny_execs_cons (wpAny_If (b.go s _ E rfl fun k => by rw [hc]; exact wpAny_execs_nil (q k)))
theorem xs_ret {e : PySem.Expr} {pos : Pos} {rest : List Stmt} {f : Tok → Value} {Q : Flow → Shared → Prop} (b : PE prog w A env s.heap e f) (q : ∀ t k, Q (.ret (f t)) { s with toks := k }) :
    wpAny (model prog w) A (execs (.Return (some e) pos :: rest) env) Q E s := wpAny_execs_cons (wpAny_Return_some (b.go s _ E rfl fun t k => q t k))
end PEsec3
section PEsec4
variable {prog : Program} {w : World} {A : Around} {s : Shared} {E : Value → Shared → Prop} {h₀ : Heap} {L a : Addr} {m : Str → Option Value} {cn : Str} {cs : Scope} {ccd : Value} {cl : List (Str × Addr)} {news : List (Addr × Obj)}
theorem xs_set {x : Str} {px pos : Pos} {e : PySem.Expr} {rest : List Stmt} {f : Tok → Value} {Q : Flow → Shared → Prop} (F : Fr h₀ L s.heap m) (N : News h₀ L s.heap news) (b : PE prog w A (envX cn cs L a ccd cl) s.heap e f)
    (q : ∀ t h' k, (Fr h₀ L h' fun y => if y = x then some (f t) else m y) → News h₀ L h' news → wpAny (model prog w) A (execs rest (envX cn cs L a ccd cl)) Q E { s with heap := h', toks := k })
    (hk : cs.kind = .function := by rfl) (hx : (envX cn cs L a ccd cl).kindOf x = some .local := by rfl) (hs : swapsWith e (some (.Name x px)) pos.line (envX cn cs L a ccd cl) = pure false := by rfl) :
    wpAny (model prog w) A (execs (.Assign [.Name x px] e pos :: rest) (envX cn cs L a ccd cl)) Q E s :=
  wpAny_execs_cons (wpAny_Assign_Name (b.go s _ E rfl fun t k => storeX_L (s := { s with toks := k }) F N (fun h' F' N' => q t h' (k + 1) F' N') hk hx) hs)
end PEsec4
section PEsec5
variable {prog : Program} {w : World} {A : Around} {env : Env} {s : Shared} {E : Value → Shared → Prop} {h₀ : Heap} {L : Addr} {m : Str → Option Value} {news : List (Addr × Obj)}
end PEsec5
theorem room1 {a c C R : Nat} (h : a + C < R) (k : c ≤ C) : a + c < R := Nat.lt_of_le_of_lt (Nat.add_le_add_left k a) h
theorem room2 {a b c C R : Nat} (h : a + C < R) (k : b + c ≤ C) : a + b + c < R := by rw [Nat.add_assoc]; exact room1 h k
theorem room3 {a b c d C R : Nat} (h : a + C < R) (k : b + (c + d) ≤ C) : a + b + c + d < R := by rw [Nat.add_assoc (a + b)]; exact room2 h k
theorem room4 {a b c d e C R : Nat} (h : a + C < R) (k : b + (c + (d + e)) ≤ C) : a + b + c + d + e < R := by rw [Nat.add_assoc (a + b + c)]; exact room3 h k
section
variable {prog : Program} {w : World} {A : Around} {s : Shared} {h₀ : Heap} {L : Addr} {m : Str → Option Value} {env : Env}
theorem rest_all {elt : PySem.Expr} {x : Str} {scope : Scope} {cl : List (Str × Addr)} {S : List (Addr × Obj) → Prop} {P : Nat → Value → Prop} {Fin : List Value → List (Addr × Obj) → Prop} {n : Nat} {news : List (Addr × Obj)} (T : Nat → Value → Prop)
    (turn : ∀ i ys v I oI C oC D m₂ h tk (E' : Value → Shared → Prop), i < n → ys.length = i → P i v → LCg.NsObj oC m₂ → m₂ x = some v → Fr h₀ L h m → News h₀ L h ((I, oI) :: (C, oC) :: (D, LCg.lst ys) :: news) → LCg.Off3 I C D news → ((@Ne Nat I C) ∧ (@Ne Nat I D) ∧ (@Ne Nat C D)) →
      wpAny (model prog w) A (eval elt (compEnvC scope cl C env)) (LCg.CompEnd h₀ L m { s with heap := h, toks := tk } I oI C oC D (LCg.lst ys) S (fun y news' => news' = news ∧ T i y)) E' { s with heap := h, toks := tk })
    (fin : ∀ ys, ys.length = n → (∀ i, i < n → ∃ y, ys[i]? = some y ∧ T i y) → Fin ys news) :
    LCg.CompRest prog w A h₀ L m env elt x scope cl s S P Fin n 0 [] news := by
  have go : ∀ k i ys, k + i = n → ys.length = i → (∀ j, j < i → ∃ y, ys[j]? = some y ∧ T j y) → LCg.CompRest prog w A h₀ L m env elt x scope cl s S P Fin k i ys news := by
    intro k
    induction k with
    | zero => intro i ys hk hl hT; exact fin ys (by omega) fun j hj => hT j (by omega)
    | succ k ih =>
      intro i ys hk hl hT v I oI C oC D m₂ h tk E' hv hC hx F N off ne
      refine wpAny_mono (turn i ys v I oI C oC D m₂ h tk E' (by omega) hl hv hC hx F N off ne) (fun y s' hE => ?_) (fun _ _ e => e)
      obtain ⟨h', tk', news', rfl, F', N', off', hS, rfl, hT'⟩ := hE
      refine ⟨h', tk', _, rfl, F', N', off', hS, ih (i + 1) (ys ++ [y]) (by omega) (by simp [hl]) fun j hj => ?_⟩
      by_cases e : j = i
      · subst e; exact ⟨y, by rw [List.getElem?_append_right (by omega)]; simp [hl], hT'⟩
      · obtain ⟨z, hz, hz'⟩ := hT j (by omega)
        exact ⟨z, by rw [List.getElem?_append_left (by omega)]; exact hz, hz'⟩
  exact go n 0 [] rfl rfl fun j hj => absurd hj (Nat.not_lt_zero _)
end
theorem ints_of {ys : List Value} {n : Nat} {f : Nat → Int} (hl : ys.length = n) (h : ∀ i, i < n → ∃ y, ys[i]? = some y ∧ ∃ t, y = .int (f i) t) : IntsAre ys ((List.range n).map f) := by
  induction ys generalizing n f with
  | nil => cases hl; exact IntsAre.nil
  | cons y ys ih =>
    obtain ⟨y', e, t, rfl⟩ := h 0 (by rw [← hl]; exact Nat.zero_lt_succ _)
    cases e
    subst hl
    rw [List.length_cons, List.range_succ_eq_map, List.map_cons, List.map_map]
    exact IntsAre.cons _ _ (ih rfl fun i hi => h (i + 1) (Nat.succ_lt_succ hi))
-- Q1
local macro_rules | `(tactic| walk_at "pe_a") => `(tactic| (refine' PE.attr ?f ?n ?x ?b ?p ?q ?r ?s ?t ?u ?v ?w; (case b => (refine' PE.loc ?f ?v; (case f => k_asm); (case v => rfl))); (case f => k_asm); (case n => k_asm); (case x => k_asm); (case p => k_mem); (case q => k_mem); (case r => k_is); (case s => k_is); (case t => k_is); (case u => k_is); (case v => rfl); (case w => first | rfl | assumption)))
local macro_rules | `(tactic| walk_at "pe_g") => `(tactic| (refine' PE.glob ?f ?x ?t ?m; (case f => k_asm); (case x => k_asm); (case t => k_asm); (case m => k_is)))
local macro_rules | `(tactic| walk_at "pe_i") => `(tactic| first | with_reducible exact PE.int | (refine' PE.locI ?f ?v; (case f => k_asm); (case v => rfl)) | (refine' PE.toI ?z; (case z => first | walk_at "pe_g" | walk_at "pe_a")) | (refine' PE.add ?l ?r; (case l => walk_at "pe_i"); (case r => walk_at "pe_i")) | (refine' PE.sub ?l ?r; (case l => walk_at "pe_i"); (case r => walk_at "pe_i")) | (refine' PE.and ?l ?r; (case l => walk_at "pe_i"); (case r => walk_at "pe_i")) | (refine' PE.or ?l ?r; (case l => walk_at "pe_i"); (case r => walk_at "pe_i")) | (refine' PE.shr ?l ?r ?o; (case l => walk_at "pe_i"); (case r => walk_at "pe_i"); (case o => decide)) | (refine' PE.mod ?l ?r ?o; (case l => walk_at "pe_i"); (case r => walk_at "pe_i"); (case o => decide)) | (refine' PE.lenB (by k_asm) (by k_asm) (by k_asm) ?m ?y ?b ?l; (case m => k_is); (case y => walk_at "pe_v"); (case b => walk_at "c_ks"); (case l => walk_at "c_len")))
local macro_rules | `(tactic| walk_at "pe_v") => `(tactic| first | (refine' PE.loc ?f ?v; (case f => k_asm); (case v => rfl)) | (with_reducible first | exact PE.int | exact PE.none | exact PE.bool | exact PE.str) | walk_at "pe_g" | walk_at "pe_a" | walk_at "pe_i")
local macro_rules | `(tactic| walk_at "pe_t") => `(tactic| first | (refine' PT.lt ?l ?r; (case l => walk_at "pe_i"); (case r => walk_at "pe_i")) | (refine' PT.eq ?l ?r; (case l => walk_at "pe_i"); (case r => walk_at "pe_i")) | (refine' PT.ne ?l ?r; (case l => walk_at "pe_i"); (case r => walk_at "pe_i")) | (refine' PT.gt ?l ?r; (case l => walk_at "pe_i"); (case r => walk_at "pe_i")) | (refine' PT.le ?l ?r; (case l => walk_at "pe_i"); (case r => walk_at "pe_i")) | (refine' PT.ge ?l ?r; (case l => walk_at "pe_i"); (case r => walk_at "pe_i")) | with_reducible exact PT.or_nil | with_reducible exact PT.and_nil | (refine' PT.or ?a ?b; (case a => walk_at "pe_t"); (case b => walk_at "pe_t")) | (refine' PT.and ?a ?b; (case a => walk_at "pe_t"); (case b => walk_at "pe_t")) | (refine' PT.not ?z; (case z => walk_at "pe_t")) | (refine' PT.in2 ?a ?b ?c; (case a => walk_at "pe_i"); (case b => walk_at "pe_i"); (case c => walk_at "pe_i")) | (refine' PT.in3 ?a ?b ?c; (case a => walk_at "pe_i"); (case b => walk_at "pe_i"); (case c => walk_at "pe_i")))
local macro_rules | `(tactic| walk_at "pe_step") => `(tactic| (k_here; k_dflt (first | ((with_reducible show wpAny _ _ (execs (Stmt.If _ _ [] _ :: _) _) _ _ _); (refine' xs_skip ?b ?c ?_; (case b => walk_at "pe_t"); (case c => walk_at "c_dec")); intro _) | ((with_reducible show wpAny _ _ (execs (Stmt.Return (some _) _ :: _) _) _ _ _); (refine' xs_ret ?b ?_; (case b => walk_at "pe_v")); intro _ _) | ((with_reducible show wpAny _ _ (execs (Stmt.Assign [Expr.Name _ _] _ _ :: _) _) _ _ _); (refine' xs_set (by k_asm) (by k_asm) ?b ?_; (case b => walk_at "pe_v"); k_whole); intro _ h' _ F' N'; (try k_sweep)) | ((with_reducible show wpAny _ _ (eval (Expr.Call (Expr.Name _ _) [_] [] _) _) _ _ _); (refine' callP1 (by k_asm) (by k_asm) (by k_asm) ?m ?k ?b0 ?_; (case m => k_is); (case k => k_is); (case b0 => walk_at "pe_v"); k_whole; intro _ _)) | ((with_reducible show wpAny _ _ (eval (Expr.Call (Expr.Name _ _) [_, _] [] _) _) _ _ _); (refine' callP2 (by k_asm) (by k_asm) (by k_asm) ?m ?k ?b0 ?b1 ?_; (case m => k_is); (case k => k_is); (case b0 => walk_at "pe_v");  (case b1 => walk_at "pe_v"); k_whole; intro _ _ _)) | ((with_reducible show wpAny _ _ (eval (Expr.Call (Expr.Name _ _) [_, _, _] [] _) _) _ _ _); (refine' callP3 (by k_asm) (by k_asm) (by k_asm) ?m ?k ?b0 ?b1 ?b2 ?_; (case m => k_is); (case k => k_is); (case b0 => walk_at "pe_v");  (case b1 => walk_at "pe_v");  (case b2 => walk_at "pe_v"); k_whole; intro _ _ _ _)) | ((with_reducible show wpAny _ _ (eval (Expr.BinOp _ _ _ _) _) _ _ _); (refine' PE.use ?b ?_; (case b => walk_at "pe_i")); intro _ _) | ((with_reducible show wpAny _ _ (eval (Expr.Attribute (Expr.Name _ _) _ _) _) _ _ _); (refine' PE.use ?b ?_; (case b => walk_at "pe_a")); intro _ _) | ((with_reducible show wpAny _ _ (isTrue _ _ _) _ _ _); (refine' PT.use ?b ?_; (case b => walk_at "pe_t")); intro _))))
local macro_rules | `(tactic| walk_at "c_room") => `(tactic| first | exact room1 (by with_reducible assumption) (by decide) | exact room2 (by with_reducible assumption) (by decide) | exact room3 (by with_reducible assumption) (by decide) | exact room4 (by with_reducible assumption) (by decide) | omega | ktr_room | ktr_units)
local macro_rules | `(tactic| k_room) => `(tactic| first | walk_at "c_room" | ktr_room)
local macro_rules | `(tactic| units_room) => `(tactic| first | walk_at "c_room" | ktr_units)
local macro_rules | `(tactic| walk_at "c_dec") => `(tactic| ((try simp only [decide_eq_true_eq, decide_eq_false_iff_not, List.any_cons, List.any_nil, Bool.or_false, Bool.or_eq_true, Bool.or_eq_false_iff, Bool.not_eq_true', Bool.not_eq_false', Bool.and_eq_true, Bool.and_eq_false_imp, beq_iff_eq, beq_eq_false_iff_ne, bne_iff_ne, bne_eq_false_iff_eq, ne_eq, Decidable.not_not]); (try simp only [bitAnd_m1, bitAnd_m2, bitAnd_m4, bitAnd_m8, bitAnd_m12, fdp, fd_lit, Nat.reduceAdd, Int.cast_ofNat_Int, Int.reduceAdd, Int.reduceDiv, Int.reduceMod, Int.reduceMul, Int.reduceToNat, Int.reducePow, Int.one_mul, sumL_len, be2_len, be4_len, be6_len, List.length_append, List.length_cons, List.length_nil, List.length_take, List.length_drop, List.length_replicate]); omega))
local macro_rules | `(tactic| walk_at "c_len") => `(tactic| first | with_reducible assumption | ((try simp only [sumL_len, be2_len, be4_len, be6_len, List.map_nil, List.append_nil, List.length_append, List.length_cons, List.length_nil, List.length_map, List.length_replicate, List.length_take, List.length_drop, List.take_succ_cons, List.take_zero, List.drop_succ_cons, List.drop_zero]); omega))
local macro_rules | `(tactic| walk_at "c_bnd") => `(tactic| first | with_reducible assumption | omega | walk_at "c_dec")
local macro_rules | `(tactic| walk_at "c_at") => `(tactic| first | with_reducible assumption | walk_at "c_dec")
local macro_rules | `(tactic| walk_at "c_ks") => `(tactic| first | with_reducible assumption | kba_ints | exact rfl)
local macro_rules | `(tactic| walk_at "c_cut") => `(tactic| first | exact BB.take_app (by walk_at "c_dec") | exact BB.drop_app (by walk_at "c_dec") | ((try simp only [Int.reduceAdd, Int.reduceSub, Int.reduceToNat, List.take_succ_cons, List.take_zero, List.drop_succ_cons, List.drop_zero]); rfl))
local macro_rules | `(tactic| kba_size) => `(tactic| ((try simp only [sumL_len, be2_len, be4_len, be6_len, List.map_nil, List.append_nil, List.length_append, List.length_cons, List.length_nil, List.length_map, List.length_replicate, List.length_take, List.length_drop, List.take_succ_cons, List.take_zero, List.drop_succ_cons, List.drop_zero]); omega))
local macro_rules | `(tactic| k_mem) => `(tactic| ((repeat (first | with_reducible exact List.Mem.head _ | with_reducible assumption | with_reducible refine List.Mem.tail _ ?_)); done))
local macro_rules | `(tactic| walk_at "c_mem") => `(tactic| ((repeat (refine List.forall_mem_cons.2 ⟨by first | k_mem | (simp only [List.cons_append, List.nil_append, List.mem_cons, true_or, or_true]; done), ?_⟩)); exact fun _ h => nomatch h))
local macro_rules | `(tactic| lcg_off) => `(tactic| with_reducible assumption)
local macro_rules | `(tactic| lcg_src) => `(tactic| exact ⟨_, by k_mem⟩)
local macro_rules | `(tactic| k_handed) => `(tactic| assumption)
local macro_rules | `(tactic| walk_at "truthy") => `(tactic| (refine Truth.use (by assumption) ?_; intro _))
local macro_rules | `(tactic| walk_at "c_end1") => `(tactic| ((rename News _ _ _ _ => hN); repeat (first | with_reducible exact hN | replace hN := news_tl hN)))
-- Q2
theorem xor_lt (k : Nat) : ∀ x y : Int, 0 ≤ x → x < 2 ^ k → 0 ≤ y → y < 2 ^ k → 0 ≤ Builtin.bitXor x y ∧ Builtin.bitXor x y < 2 ^ k := by
  induction k with
  | zero => intro x y h0 h1 h2 h3; rw [show x = 0 by omega, show y = 0 by omega]; decide
  | succ k ih =>
    intro x y h0 h1 h2 h3
    rw [Int.pow_succ] at h1 h3
    have h := ih (x / 2) (y / 2) (by omega) (by omega) (by omega) (by omega)
    rw [bitXor_and] at h ⊢
    rw [kbt_halves, Int.pow_succ]
    split <;> omega
def HT : List Int := [0, 498536548, 997073096, 651767980, 1994146192, 1802195444, 1303535960, 1342533948, 3988292384, 4027552580, 3604390888, 3412177804, 2607071920, 2262029012, 2685067896, 3183342108]
theorem ht_ok : ∀ i : Nat, 0 ≤ HT.getD i 0 ∧ HT.getD i 0 < 2 ^ 32
  | 0 | 1 | 2 | 3 | 4 | 5 | 6 | 7 | 8 | 9 | 10 | 11 | 12 | 13 | 14 | 15 => by decide
  | n + 16 => by
    have : HT.getD (n + 16) 0 = 0 := by simp [HT]
    rw [this]; decide
def crcHalf (w x : Int) : Int := Builtin.bitXor (w.fdiv (2 ^ Int.toNat 4)) (HT.getD (Builtin.bitAnd (Builtin.bitXor w x) 15).toNat 0)
def crcStep (w k : Int) : Int := crcHalf (crcHalf w k) (k.fdiv (2 ^ Int.toNat 4))
def crcV (ks : List Int) : Int := Builtin.bitXor (ks.foldl crcStep 4294967295) 4294967295
theorem crcHalf_lt {w : Int} (x : Int) (h0 : 0 ≤ w) (h1 : w < 2 ^ 32) : 0 ≤ crcHalf w x ∧ crcHalf w x < 2 ^ 32 := by
  have h := ht_ok (Builtin.bitAnd (Builtin.bitXor w x) 15).toNat
  refine xor_lt 32 _ _ ?_ ?_ h.1 h.2 <;> (rw [Int.fdiv_eq_ediv_of_nonneg _ (by decide)]; have : (2 : Int) ^ Int.toNat 4 = 16 := rfl; rw [this]; omega)
theorem crc_step {f kN : Int} {pre : List Int} (h : f = pre.foldl crcStep 4294967295) (h0 : 0 ≤ f) (h1 : f < 2 ^ 32) :
    crcHalf (crcHalf f kN) (kN.fdiv (2 ^ Int.toNat 4)) = (pre ++ [kN]).foldl crcStep 4294967295 ∧ 0 ≤ crcHalf (crcHalf f kN) (kN.fdiv (2 ^ Int.toNat 4)) ∧ crcHalf (crcHalf f kN) (kN.fdiv (2 ^ Int.toNat 4)) < 2 ^ 32 := by
  have a := crcHalf_lt kN h0 h1
  refine ⟨?_, crcHalf_lt _ a.1 a.2⟩
  rw [List.foldl_append, ← h]; rfl

def be6 (n : Int) : List Int := [n / 1099511627776 % 256, n / 4294967296 % 256, n / 16777216 % 256, n / 65536 % 256, n / 256 % 256, n / 1 % 256]
def be4 (n : Int) : List Int := [n / 16777216 % 256, n / 65536 % 256, n / 256 % 256, n / 1 % 256]
def be2 (n : Int) : List Int := [n / 256 % 256, n / 1 % 256]
theorem be2_len (n : Int) : (be2 n).length = 2 := rfl
theorem be6_len (n : Int) : (be6 n).length = 6 := rfl
theorem be4_len (n : Int) : (be4 n).length = 4 := rfl
def sumL (H : List Int) : List Int := [crcV H / 1 % 256, crcV H / 256 % 256, crcV H / 65536 % 256, crcV H / 16777216 % 256]
theorem sumL_len (H : List Int) : (sumL H).length = 4 := rfl
@[irreducible] def leF (v : Int) : List Int := (List.range 4).map fun (i : Nat) => Builtin.bitAnd (v.fdiv (2 ^ (8 * (0 + (i : Int))).toNat)) 255
theorem leF_eq (ks : List Int) : leF (crcV ks) = sumL ks := by unfold leF sumL; simp only [bitAnd_m8, fdp]; rfl
theorem leF_ok (v : Int) : ∀ k ∈ leF v, 0 ≤ k ∧ k < 256 := by
  unfold leF; intro k hk
  obtain ⟨i, _, rfl⟩ := List.mem_map.mp hk
  simp only [bitAnd_m8]; omega
theorem leF_len (v : Int) : (leF v).length = 4 := by unfold leF; simp
theorem fd_lit (a : Int) (k : Nat) : a.fdiv (no_index (@OfNat.ofNat Int k (@instOfNat k))) = a / @OfNat.ofNat Int k (@instOfNat k) := Int.fdiv_eq_ediv_of_nonneg _ (Int.natCast_nonneg k)
theorem bitAnd_m12 (x : Int) : Builtin.bitAnd x 4095 = x % 4096 := kbt_mask x 12
def crc_ok_S (w : World) (p : Program) (loose : List Str) (mean : ExcName → Option Value) (mg : Str → Option Value) (mb : Str → Option Value) (dp : Nat) (un : Nat) (gd : Option (List Code)) (cn : Str) (cs : Scope) (a : Addr) (ccd : Value) (cl : List (Str × Addr)) (outer : List Env) (A₀ : Around) (base : Heap) (h₀ : Heap) (L : Addr) (m : Str → Option Value) (s : Shared) (Q : Value → Shared → Prop) (E : Value → Shared → Prop) (rest : List (Addr × Obj)) (b : Array UInt8) (ks : List Int) (tb : Tok) : Prop :=
  Below A₀ base outer h₀ → Fr h₀ L s.heap m → (hd.heap_1 w.params).In h₀ → News h₀ L s.heap (rest) → Top p loose mean mg mb h₀ → cs.kind = .function → dp + 1 < recursionLimit → un + 8 < cLine → KBw.bInts b = ks → ks.length ≤ 5000 →
  (∀ v t h' tk', v = crcV ks → 0 ≤ v → v < 2 ^ 32 → Fr h₀ L h' m → News h₀ L h' rest → Q (.int v t) { s with heap := h', toks := tk' }) →
  wpAny (model PySem.Challenge.rw_pq1168_01.row.toRowW.prog w) (ktrTop dp un gd cn cs L a ccd cl outer) (call (.ref 448) [.bytes b tb]) Q E s
def crc_ok_P (x : PK × (Array UInt8) × (List Int) × Tok) : Prop := crc_ok_S x.1.w x.1.p x.1.loose x.1.mean x.1.mg x.1.mb x.1.dp x.1.un x.1.gd x.1.cn x.1.cs x.1.a x.1.ccd x.1.cl x.1.outer x.1.A₀ x.1.base x.1.h₀ x.1.L x.1.m x.1.s x.1.Q x.1.E x.1.rest x.2.1 x.2.2.1 x.2.2.2
@[irreducible] noncomputable def crc_ok_c : PK × (Array UInt8) × (List Int) × Tok := hk ⟨(pk0, default, default, default)⟩ crc_ok_P
def crc_ok_G (w : World) (p : Program) (loose : List Str) (mean : ExcName → Option Value) (mg : Str → Option Value) (mb : Str → Option Value) (dp : Nat) (un : Nat) (gd : Option (List Code)) (cn : Str) (cs : Scope) (a : Addr) (ccd : Value) (cl : List (Str × Addr)) (outer : List Env) (A₀ : Around) (base : Heap) (h₀ : Heap) (L : Addr) (m : Str → Option Value) (s : Shared) (Q : Value → Shared → Prop) (E : Value → Shared → Prop) (rest : List (Addr × Obj)) (b : Array UInt8) (ks : List Int) (tb : Tok) : Heap := hideAll s.heap (([] : List (Addr × Obj)).map (·.1))
@[irreducible] noncomputable def crc_ok_g : Heap := crc_ok_G crc_ok_c.1.w crc_ok_c.1.p crc_ok_c.1.loose crc_ok_c.1.mean crc_ok_c.1.mg crc_ok_c.1.mb crc_ok_c.1.dp crc_ok_c.1.un crc_ok_c.1.gd crc_ok_c.1.cn crc_ok_c.1.cs crc_ok_c.1.a crc_ok_c.1.ccd crc_ok_c.1.cl crc_ok_c.1.outer crc_ok_c.1.A₀ crc_ok_c.1.base crc_ok_c.1.h₀ crc_ok_c.1.L crc_ok_c.1.m crc_ok_c.1.s crc_ok_c.1.Q crc_ok_c.1.E crc_ok_c.1.rest crc_ok_c.2.1 crc_ok_c.2.2.1 crc_ok_c.2.2.2
@[irreducible] noncomputable def crc_ok_l : Addr := crc_ok_c.1.s.heap.objs.size
set_option maxHeartbeats 8000000 in
theorem crc_ok_h : crc_ok_S crc_ok_c.1.w crc_ok_c.1.p crc_ok_c.1.loose crc_ok_c.1.mean crc_ok_c.1.mg crc_ok_c.1.mb crc_ok_c.1.dp crc_ok_c.1.un crc_ok_c.1.gd crc_ok_c.1.cn crc_ok_c.1.cs crc_ok_c.1.a crc_ok_c.1.ccd crc_ok_c.1.cl crc_ok_c.1.outer crc_ok_c.1.A₀ crc_ok_c.1.base crc_ok_c.1.h₀ crc_ok_c.1.L crc_ok_c.1.m crc_ok_c.1.s crc_ok_c.1.Q crc_ok_c.1.E crc_ok_c.1.rest crc_ok_c.2.1 crc_ok_c.2.2.1 crc_ok_c.2.2.2 := by
  delta crc_ok_S
  k_fill
  intro B F X N T hk hdp hun hb hl hret
  (refine wpAny_call ?_; k_dflt (first | (refine' code_pure (G := crc_ok_g) (l := crc_ok_l) ?k1 ?k2 ?k3 ?k4 ?k5 ?kA ?kF ?kK ?k6 ?k7 ?k8 ?k9 ?kB ?_ ?c2 ?c3 ?c4 ?c5 ?hG ?hl; (case hG => exact (by unfold crc_ok_g crc_ok_G; rfl)); (case hl => exact (by unfold crc_ok_l; rfl)); (case kA => exact rfl); (case kF => exact rfl); (case kK => assumption); (case k1 => k_asm); (case k2 => k_asm); (case k3 => k_asm); (case k4 => k_asm); (case k5 => k_asm); (case k6 => k_is); (case k7 => k_is); (case k8 => ktr_room); (case k9 => first | exact BindsTo.of_eq rfl | exact binds_K (by k_in) rfl (by k_is) rfl rfl rfl); (case c5 => decide); (case kB => exact locs rfl); (case c2 => exact rfl); (case c3 => exact rfl); (case c4 => exact rfl); k_whole; intro h' FG' R' F' N' B' X' T'; (try dsimp only); (try k_fold)) | (refine' code_pureC (G := crc_ok_g) (l := crc_ok_l) ?k1 ?k2 ?k3 ?k4 ?k5 ?kA ?kF ?kK ?k6 ?k7 ?k8 ?k9 ?kB ?kD ?_ ?c2 ?c3 ?c4 ?hG ?hl; (case hG => exact (by unfold crc_ok_g crc_ok_G; rfl)); (case hl => exact (by unfold crc_ok_l; rfl)); (case kA => exact rfl); (case kF => exact rfl); (case kK => assumption); (case k1 => k_asm); (case k2 => k_asm); (case k3 => k_asm); (case k4 => k_asm); (case k5 => k_asm); (case k6 => k_is); (case k7 => k_is); (case k8 => ktr_room); (case k9 => first | exact BindsTo.of_eq rfl | exact binds_K (by k_in) rfl (by k_is) rfl rfl rfl); (case kB => exact rfl); (case kD => decide +kernel); (case c2 => exact rfl); (case c3 => exact rfl); (case c4 => exact rfl); k_whole; intro h' tk' cells' FG' R' F' N' Y' B' X' T'; k_cells Y'; (try simp only [List.cons_append, List.nil_append] at N'); (try dsimp only); (try k_fold))))
  (k_with "mybytes" => k_state (fun pre f => f = pre.foldl crcStep 4294967295 ∧ 0 ≤ f ∧ f < 2 ^ 32) "word")
  (k_with "state" => first | exact ⟨rfl, by decide, by decide⟩ | exact crc_step (by assumption) (by assumption) (by assumption))
  repeat' (first | kst_close | (k_unfold; (try dsimp only)) | (k_end; wrow_close) | walk_at "pe_step" | ((with_reducible show wpAny _ _ (exec (Stmt.For (Expr.Name _ _) (Expr.Name _ _) _ _ _) _) _ _ _); k_here; (rename Fr _ _ _ _ => lF'); (with_unfolding_all refine' For_invVF lF' ?k1 ?k2 ?_; (case k1 => exact rfl); (case k2 => exact rfl); k_whole)) | ((with_reducible show wpAny _ _ (pyIter (Value.bytes _ _)) _ _ _); k_here; k_dflt (k_extra "mybytes")) | (k_here; (with_reducible show wpAny _ _ (subscriptTail _ _ (Value.ref _) (Value.int (Builtin.bitAnd _ 15) _)) _ _ _); k_dflt (refine' item_tuple_ints ?l ?i ?a ?b ?c ?_ ?s ?g; (case l => ktb_isTup); (case i => repeat constructor); (case a => (simp only [bitAnd_m4]; omega)); (case b => (simp only [bitAnd_m4, List.length_cons, List.length_nil]; omega)); (case c => (simp only [bitAnd_m4]; omega)); (case s => with_unfolding_all rfl); (case g => (intro _; with_unfolding_all rfl)); k_whole; intro _)) | walk1 | (dsimp only; walk1) | (leave1; try dsimp only) | fail "no step")
  · obtain ⟨a, b⟩ := xor_lt 32 _ 4294967295 (by assumption) (by assumption) (by decide) (by decide)
    refine hret _ _ _ _ ?_ a b (by assumption) (rest_up (by assumption) (by assumption))
    rw [crcV]; congr
theorem crc_ok : ∀ (w : World) {p : Program} {loose : List Str} {mean : ExcName → Option Value} {mg mb : Str → Option Value} {dp un : Nat} {gd : Option (List Code)} {cn : Str} {cs : Scope} {a : Addr} {ccd : Value} {cl : List (Str × Addr)} {outer : List Env} {A₀ : Around} {base h₀ : Heap} {L : Addr} {m : Str → Option Value} {s : Shared} {Q E : Value → Shared → Prop} {rest : List (Addr × Obj)} (b : Array UInt8) (ks : List Int) (tb : Tok),
  Below A₀ base outer h₀ → Fr h₀ L s.heap m → (hd.heap_1 w.params).In h₀ → News h₀ L s.heap (rest) → Top p loose mean mg mb h₀ → cs.kind = .function → dp + 1 < recursionLimit → un + 8 < cLine → KBw.bInts b = ks → ks.length ≤ 5000 →
  (∀ v t h' tk', v = crcV ks → 0 ≤ v → v < 2 ^ 32 → Fr h₀ L h' m → News h₀ L h' rest → Q (.int v t) { s with heap := h', toks := tk' }) →
  wpAny (model PySem.Challenge.rw_pq1168_01.row.toRowW.prog w) (ktrTop dp un gd cn cs L a ccd cl outer) (call (.ref 448) [.bytes b tb]) Q E s := fun w p loose mean mg mb dp un gd cn cs a ccd cl outer A₀ base h₀ L m s Q E rest b ks tb => hk2 (P := crc_ok_P) ⟨(pk0, default, default, default)⟩ (by unfold crc_ok_c; rfl) crc_ok_h (⟨w, p, loose, mean, mg, mb, dp, un, gd, cn, cs, a, ccd, cl, outer, A₀, base, h₀, L, m, s, Q, E, rest⟩, b, ks, tb)
def sum_ok_S (w : World) (p : Program) (loose : List Str) (mean : ExcName → Option Value) (mg : Str → Option Value) (mb : Str → Option Value) (dp : Nat) (un : Nat) (gd : Option (List Code)) (cn : Str) (cs : Scope) (a : Addr) (ccd : Value) (cl : List (Str × Addr)) (outer : List Env) (A₀ : Around) (base : Heap) (h₀ : Heap) (L : Addr) (m : Str → Option Value) (s : Shared) (Q : Value → Shared → Prop) (E : Value → Shared → Prop) (rest : List (Addr × Obj)) (b : Array UInt8) (ks : List Int) (tb : Tok) : Prop :=
  Below A₀ base outer h₀ → Fr h₀ L s.heap m → (hd.heap_1 w.params).In h₀ → News h₀ L s.heap (rest) → Top p loose mean mg mb h₀ → cs.kind = .function → dp + 2 < recursionLimit → un + 16 < cLine → KBw.bInts b = ks → ks.length ≤ 5000 →
  (∀ b' t h' tk', KBw.bInts b' = sumL ks → Fr h₀ L h' m → News h₀ L h' rest → Q (.bytes b' t) { s with heap := h', toks := tk' }) →
  wpAny (model PySem.Challenge.rw_pq1168_01.row.toRowW.prog w) (ktrTop dp un gd cn cs L a ccd cl outer) (call (.ref 453) [.bytes b tb]) Q E s
def sum_ok_P (x : PK × (Array UInt8) × (List Int) × Tok) : Prop := sum_ok_S x.1.w x.1.p x.1.loose x.1.mean x.1.mg x.1.mb x.1.dp x.1.un x.1.gd x.1.cn x.1.cs x.1.a x.1.ccd x.1.cl x.1.outer x.1.A₀ x.1.base x.1.h₀ x.1.L x.1.m x.1.s x.1.Q x.1.E x.1.rest x.2.1 x.2.2.1 x.2.2.2
@[irreducible] noncomputable def sum_ok_c : PK × (Array UInt8) × (List Int) × Tok := hk ⟨(pk0, default, default, default)⟩ sum_ok_P
def sum_ok_G (w : World) (p : Program) (loose : List Str) (mean : ExcName → Option Value) (mg : Str → Option Value) (mb : Str → Option Value) (dp : Nat) (un : Nat) (gd : Option (List Code)) (cn : Str) (cs : Scope) (a : Addr) (ccd : Value) (cl : List (Str × Addr)) (outer : List Env) (A₀ : Around) (base : Heap) (h₀ : Heap) (L : Addr) (m : Str → Option Value) (s : Shared) (Q : Value → Shared → Prop) (E : Value → Shared → Prop) (rest : List (Addr × Obj)) (b : Array UInt8) (ks : List Int) (tb : Tok) : Heap := hideAll s.heap (([] : List (Addr × Obj)).map (·.1))
@[irreducible] noncomputable def sum_ok_g : Heap := sum_ok_G sum_ok_c.1.w sum_ok_c.1.p sum_ok_c.1.loose sum_ok_c.1.mean sum_ok_c.1.mg sum_ok_c.1.mb sum_ok_c.1.dp sum_ok_c.1.un sum_ok_c.1.gd sum_ok_c.1.cn sum_ok_c.1.cs sum_ok_c.1.a sum_ok_c.1.ccd sum_ok_c.1.cl sum_ok_c.1.outer sum_ok_c.1.A₀ sum_ok_c.1.base sum_ok_c.1.h₀ sum_ok_c.1.L sum_ok_c.1.m sum_ok_c.1.s sum_ok_c.1.Q sum_ok_c.1.E sum_ok_c.1.rest sum_ok_c.2.1 sum_ok_c.2.2.1 sum_ok_c.2.2.2
@[irreducible] noncomputable def sum_ok_l : Addr := sum_ok_c.1.s.heap.objs.size
set_option maxHeartbeats 8000000 in
theorem sum_ok_h : sum_ok_S sum_ok_c.1.w sum_ok_c.1.p sum_ok_c.1.loose sum_ok_c.1.mean sum_ok_c.1.mg sum_ok_c.1.mb sum_ok_c.1.dp sum_ok_c.1.un sum_ok_c.1.gd sum_ok_c.1.cn sum_ok_c.1.cs sum_ok_c.1.a sum_ok_c.1.ccd sum_ok_c.1.cl sum_ok_c.1.outer sum_ok_c.1.A₀ sum_ok_c.1.base sum_ok_c.1.h₀ sum_ok_c.1.L sum_ok_c.1.m sum_ok_c.1.s sum_ok_c.1.Q sum_ok_c.1.E sum_ok_c.1.rest sum_ok_c.2.1 sum_ok_c.2.2.1 sum_ok_c.2.2.2 := by
  delta sum_ok_S
  k_fill
  intro B F X N T hk hdp hun hb hl hret
  (refine wpAny_call ?_; k_dflt (first | (refine' code_pure (G := sum_ok_g) (l := sum_ok_l) ?k1 ?k2 ?k3 ?k4 ?k5 ?kA ?kF ?kK ?k6 ?k7 ?k8 ?k9 ?kB ?_ ?c2 ?c3 ?c4 ?c5 ?hG ?hl; (case hG => exact (by unfold sum_ok_g sum_ok_G; rfl)); (case hl => exact (by unfold sum_ok_l; rfl)); (case kA => exact rfl); (case kF => exact rfl); (case kK => assumption); (case k1 => k_asm); (case k2 => k_asm); (case k3 => k_asm); (case k4 => k_asm); (case k5 => k_asm); (case k6 => k_is); (case k7 => k_is); (case k8 => ktr_room); (case k9 => first | exact BindsTo.of_eq rfl | exact binds_K (by k_in) rfl (by k_is) rfl rfl rfl); (case c5 => decide); (case kB => exact locs rfl); (case c2 => exact rfl); (case c3 => exact rfl); (case c4 => exact rfl); k_whole; intro h' FG' R' F' N' B' X' T'; (try dsimp only); (try k_fold)) | (refine' code_pureC (G := sum_ok_g) (l := sum_ok_l) ?k1 ?k2 ?k3 ?k4 ?k5 ?kA ?kF ?kK ?k6 ?k7 ?k8 ?k9 ?kB ?kD ?_ ?c2 ?c3 ?c4 ?hG ?hl; (case hG => exact (by unfold sum_ok_g sum_ok_G; rfl)); (case hl => exact (by unfold sum_ok_l; rfl)); (case kA => exact rfl); (case kF => exact rfl); (case kK => assumption); (case k1 => k_asm); (case k2 => k_asm); (case k3 => k_asm); (case k4 => k_asm); (case k5 => k_asm); (case k6 => k_is); (case k7 => k_is); (case k8 => ktr_room); (case k9 => first | exact BindsTo.of_eq rfl | exact binds_K (by k_in) rfl (by k_is) rfl rfl rfl); (case kB => exact rfl); (case kD => decide +kernel); (case c2 => exact rfl); (case c3 => exact rfl); (case c4 => exact rfl); k_whole; intro h' tk' cells' FG' R' F' N' Y' B' X' T'; k_cells Y'; (try simp only [List.cons_append, List.nil_append] at N'); (try dsimp only); (try k_fold))))
  repeat' (first | kst_close | (k_unfold; (try dsimp only)) | (k_end; wrow_close) | walk_at "pe_step" | ((with_reducible show wpAny _ _ (call (Value.ref 448) [_]) _ _ _); k_here; k_dflt (refine' crc_ok _ _ _ _ ?kB ?kF ?kX ?kN ?kT ?kk ?kd ?ku ?h0 ?h1 ?_; (case kB => assumption); (case kF => k_asm); (case kX => assumption); (case kN => k_asm); (case kT => assumption); (case kk => first | rfl | assumption); (case kd => walk_at "c_room"); (case ku => walk_at "c_room"); (case h0 => walk_at "c_ks"); (case h1 => walk_at "c_len"); k_whole; intro r0' r1' r2' r3' r4' r5' r6' F' N'; (try dsimp only); (try k_sweep); (rename _ = crcV _ => hv9); subst hv9)) | ((with_reducible show LCg.CompRest _ _ _ _ _ _ _ _ _ _ _ _ _ _ _ _ _ _ _); (with_unfolding_all first | (refine LCg.CompRest.succ ?_; intro v' I' oI' C' oC' D' m' h' tk' E' hv' hC' hx' F' N' off' ne'; (first | lcg_open hv' | (obtain ⟨t9', hv9'⟩ := hv'; subst hv9'))) | refine LCg.CompRest.zero ?_)) | ((with_reducible show LCg.CompEnd _ _ _ _ _ _ _ _ _ _ _ _ _ _); lcg_end) | ((with_reducible show LCg.CompSrc _ _ _ _ _ _ _ _ _ _ _ _ _ _); k_here; k_dflt (refine LCg.CompSrc.range (by rfl) (by k_asm) (by k_asm) (by assumption) (by decide) (by rfl) (by exact Nat.le_of_ble_eq_true rfl) ?_; intro g'); (refine rest_all (n := 4) (fun i y => ∃ t, y = Value.int (Builtin.bitAnd ((crcV (sum_ok_c.2.2.1)).fdiv (2 ^ (8 * (0 + (i : Int))).toNat)) 255) t) ?_ ?_); (intro i' ys' v' I' oI' C' oC' D' m' h' tk' E' hi' hl' hv' hC' hx' F' N' off' ne'; (obtain ⟨t9', hv9'⟩ := hv'; subst hv9'))) | ((with_reducible show wpAny _ _ (call (Value.type "bytes") [Value.ref _]) _ _ _); k_here; k_dflt (refine' bytes_mk (ns := leF (crcV (sum_ok_c.2.2.1))) ?F ?N ?h ?l ?i (leF_ok _) (by rw [leF_len]; decide) ?_; (case F => k_asm); (case N => k_asm); (case h => rfl); (case l => kba_isList); (case i => (unfold leF; exact ints_of hlY hY))); intro b' h' t' k' hB' F' N'; (try k_sweep)) | ((with_reducible show ∀ _ : List Value, _); intro ys' hlY hY) | walk1 | (dsimp only; walk1) | (leave1; try dsimp only) | fail "no step")
  refine hret _ _ _ _ ?_ (by with_reducible assumption) (rest_up (by with_reducible assumption) (by with_reducible assumption))
  rw [← leF_eq]
  with_reducible assumption
theorem sum_ok : ∀ (w : World) {p : Program} {loose : List Str} {mean : ExcName → Option Value} {mg mb : Str → Option Value} {dp un : Nat} {gd : Option (List Code)} {cn : Str} {cs : Scope} {a : Addr} {ccd : Value} {cl : List (Str × Addr)} {outer : List Env} {A₀ : Around} {base h₀ : Heap} {L : Addr} {m : Str → Option Value} {s : Shared} {Q E : Value → Shared → Prop} {rest : List (Addr × Obj)} (b : Array UInt8) (ks : List Int) (tb : Tok),
  Below A₀ base outer h₀ → Fr h₀ L s.heap m → (hd.heap_1 w.params).In h₀ → News h₀ L s.heap (rest) → Top p loose mean mg mb h₀ → cs.kind = .function → dp + 2 < recursionLimit → un + 16 < cLine → KBw.bInts b = ks → ks.length ≤ 5000 →
  (∀ b' t h' tk', KBw.bInts b' = sumL ks → Fr h₀ L h' m → News h₀ L h' rest → Q (.bytes b' t) { s with heap := h', toks := tk' }) →
  wpAny (model PySem.Challenge.rw_pq1168_01.row.toRowW.prog w) (ktrTop dp un gd cn cs L a ccd cl outer) (call (.ref 453) [.bytes b tb]) Q E s := fun w p loose mean mg mb dp un gd cn cs a ccd cl outer A₀ base h₀ L m s Q E rest b ks tb => hk2 (P := sum_ok_P) ⟨(pk0, default, default, default)⟩ (by unfold sum_ok_c; rfl) sum_ok_h (⟨w, p, loose, mean, mg, mb, dp, un, gd, cn, cs, a, ccd, cl, outer, A₀, base, h₀, L, m, s, Q, E, rest⟩, b, ks, tb)
-- Q3
namespace BJ
open Builtin PySem.W.FB
theorem slot_join : Slot "bytes" "join" "bytes.join" :=
  .of (owner := "bytes") (n := "join") (by rw [typeLookup_type, builtinLookup_eq_fast]; kernel_rfl) (by decide +kernel) (by decide +kernel) (by decide +kernel)
    (by first | exact .inl (by decide +kernel) | exact .inr (by decide +kernel)) (by rw [isSubtype_type]; kernel_rfl)
theorem type_join : typeOf (.builtin "bytes.join") = pure (.type "method_descriptor") := by show builtinType _ = _; rw [builtinType_eq_fast]; kernel_rfl
theorem entry_join : entryFor table "bytes.join" = some Builtin.«bytes.join» := entryFor_of_tree (by kernel_rfl)
theorem args_join_2 (a b : Value) : argsOk "bytes.join" ⟨[a, b], []⟩ := by
  unfold argsOk; rw [signature?_of (id := "bytes.join") (n := ['n', 'i', 'o', 'j']) (o := ['s', 'e', 't', 'y', 'b']) (by kernel_rfl) owner_bytes]; kernel_rfl
theorem meets_join0 {t : Tok} {a : Addr} : Meets («bytes.join» ⟨[.bytes #[] t, .ref a], []⟩) (fun _ R s => s.heap.IsList a #[] ∧ ∀ t' k, R (.ok (.ret (.bytes #[] t'))) { s with toks := k }) := by
  refine .of_wp fun prog w A R s hS => ?_
  obtain ⟨hl, h⟩ := hS
  show wpAny _ _ (Bytes.joinItems (.ref a) >>= fun seq => _) _ _ s
  unfold Bytes.joinItems
  refine wpAny_bind (wpAny_bind (wpAny_typeOf hl.typeIs ?_))
  show wpAny _ _ (pure _) _ _ s
  refine wpAny_pure ?_
  obtain ⟨o, ho, hc, n, hd⟩ := hl
  refine wpAny_bind (wpAny_seqItems ho hd ?_)
  dsimp only
  rw [Std.Legacy.Range.forIn_eq_forIn_range']
  show wpAny _ _ (Bytes.Kind.new .bytes #[] >>= fun r => _) _ _ s
  refine wpAny_bind (wpAny_mkBytes ?_ (by decide))
  show wpAny _ _ (point >>= fun _ => _) _ _ _
  refine wpAny_bind (wpAny_point ?_)
  exact wpAny_pure ⟨_, rfl, h _ _⟩
theorem meets_join1 {t u : Tok} {a : Addr} {b : Array UInt8} : Meets («bytes.join» ⟨[.bytes #[] t, .ref a], []⟩) (fun _ R s => s.heap.IsList a #[.bytes b u] ∧ R (.ok (.ret (.bytes b u))) s) := by
  refine .of_wp fun prog w A R s hS => ?_
  obtain ⟨hl, h⟩ := hS
  show wpAny _ _ (Bytes.joinItems (.ref a) >>= fun seq => _) _ _ s
  unfold Bytes.joinItems
  refine wpAny_bind (wpAny_bind (wpAny_typeOf hl.typeIs ?_))
  show wpAny _ _ (pure _) _ _ s
  refine wpAny_pure ?_
  obtain ⟨o, ho, hc, n, hd⟩ := hl
  refine wpAny_bind (wpAny_seqItems ho hd ?_)
  show wpAny _ _ (typeOf (.bytes b u) >>= fun r => _) _ _ s
  refine wpAny_bind (wpAny_typeOf (typeIs_bytes _ _ _) ?_)
  show wpAny _ _ (rule _ >>= fun _ => _) _ _ _
  exact wpAny_bind (wpAny_rule (wpAny_pure ⟨_, rfl, h⟩))
section
variable {prog : Program} {w : World} {A : Around} {E : Value → Shared → Prop} {s : Shared} {t u : Tok} {a : Addr} {b : Array UInt8}
theorem join0 {Q : Value → Shared → Prop} (hl : s.heap.IsList a #[]) (h : ∀ t' k, Q (.bytes #[] t') { s with toks := k }) : wpAny (model prog w) A (call (.builtin "bytes.join") [.bytes #[] t, .ref a]) Q E s :=
  call_meets slot_join (typeIs_bytes _ _ _) entry_join (args_join_2 _ _) meets_join0 ⟨hl, h⟩
theorem join1 {Q : Value → Shared → Prop} (hl : s.heap.IsList a #[.bytes b u]) (h : Q (.bytes b u) s) : wpAny (model prog w) A (call (.builtin "bytes.join") [.bytes #[] t, .ref a]) Q E s :=
  call_meets slot_join (typeIs_bytes _ _ _) entry_join (args_join_2 _ _) meets_join1 ⟨hl, h⟩
theorem method {M : Model} {b : Array UInt8} {pl : Sem Bool} {Q : Value × List Value → Shared → Prop} (h : Q (.builtin "bytes.join", [.bytes b t]) s) : wpAny M A (getMethod (.bytes b t) "join" pl) Q E s := by
  with_reducible exact KBd.method_of (.bytes b t) (typeIs_bytes _ _ _) slot_join type_join KBd.noRef h
end
end BJ
def TupAt (ax : Addr) (its : Array Value) (nw : List (Addr × Obj)) : Prop := ∃ k, (ax, ({ cls := .type "tuple", data := .seq its k } : Obj)) ∈ nw
theorem TupAt.tup {h₀ h : Heap} {L ax : Addr} {its : Array Value} {nw : List (Addr × Obj)} (S : TupAt ax its nw) (N : News h₀ L h nw) : h.IsTuple ax its := let ⟨k, hm⟩ := S; ⟨_, (N _ hm).1, rfl, k, rfl⟩
section
variable {prog : Program} {w : World} {A : Around} {E : Value → Shared → Prop} {s : Shared} {h₀ : Heap} {L : Addr} {m : Str → Option Value} {env : Env}
theorem tup_st {ax I : Addr} {its : Array Value} : ∀ i (h h' : Heap) (o : Obj) (nw : List (Addr × Obj)), (h.IsTupleIter I ax i ∧ h.IsTuple ax its) → h.get? I = some o → h'.get? I = some o → (∀ b o, h₀.get? b = some o → h'.get? b = some o) → News h₀ L h' nw → TupAt ax its nw → (h'.IsTupleIter I ax i ∧ h'.IsTuple ax its) :=
  fun i h h' o nw st e e' k N S => ⟨by obtain ⟨o', q, r⟩ := st.1; rw [e] at q; cases q; exact ⟨o, e', r⟩, S.tup N⟩
end
namespace BN
open Builtin
theorem no_bytes : typeLookup (.type "int") "__bytes__" = pure none := by rw [typeLookup_type, builtinLookup_eq_fast]; kernel_rfl
theorem has_index : typeLookup (.type "int") "__index__" = pure (some (.builtin "int.__index__")) := by rw [typeLookup_type, builtinLookup_eq_fast]; kernel_rfl
section
variable {prog : Program} {w : World} {A : Around} {E : Value → Shared → Prop} {s : Shared}
theorem new_int {n : Int} {u : Tok} {Q : Value → Shared → Prop} (h0 : 0 ≤ n) (h1 : n ≤ 16777216) (hQ : ∀ t k, Q (.bytes (Array.replicate n.toNat 0) t) { s with toks := k }) :
    codeAny (model prog w) A (.call (.builtin "bytes.__new__") ⟨[.type "bytes", .int n u], []⟩) (wants Q E) s := by
  refine codeAny_of_tree ?_
  show wpAny _ A.in1 (do checkBuiltinCall "bytes.__new__" ⟨[.type "bytes", .int n u], []⟩; again (.builtin "bytes.__new__" ⟨[.type "bytes", .int n u], []⟩)) _ _ s
  refine wpAny_bind (wpAny_of_eq (F.bm_newCall _) (wpAny_pure ⟨plainId_quiet F.bm_plain _, codeAny_builtin F.bm_entry ?_⟩))
  rw [Around.under_plainId F.bm_plain _]
  have hT : s.TypeIs (.int n u) "int" := typeIs_int _ _ _
  unfold Builtin.«bytes.__new__»
  refine wpAny_bind (wpAny_of_eq (a := true) rfl ?_)
  refine bm_if_false rfl ?_
  refine wpAny_bind (wpAny_of_eq F.bm_sub ?_)
  refine bm_if_false rfl ?_
  refine wpAny_bind (wpAny_of_eq (F.bm_bind _) ?_)
  refine wpAny_bind (wpAny_of_eq (a := ()) rfl ?_)
  refine wpAny_bind (wpAny_of_eq (a := ()) rfl ?_)
  refine bm_if_false rfl ?_
  refine wpAny_bind (wpAny_specialOf hT no_bytes ?_)
  refine wpAny_bind (wpAny_of_eq (a := false) rfl ?_)
  refine bm_if_false rfl ?_
  refine wpAny_bind (wpAny_specialOf hT has_index ?_)
  refine bm_if_false rfl ?_
  refine wpAny_bind (wpAny_of_eq (a := Except.ok n) rfl ?_)
  refine bm_if_false (by unfold Bytes.fitsIndex; simp; omega) ?_
  dsimp only
  rw [if_neg (by omega), if_neg (by omega)]
  refine bm_if_false (by unfold Bytes.tooLong; rw [sizeLine_eq]; simp; omega) ?_
  refine wpAny_bind (wpAny_rule ?_)
  refine wpAny_bind (wpAny_mkBytes ?_ (by rw [sizeLine_eq]; simp; omega))
  show wpAny _ _ (if (Value.type "bytes" == Value.type "bytes") = true then _ else _) _ _ _
  refine bm_if_true (by decide) ?_
  first
    | exact wpAny_pure (hQ _ _)
    | exact wpAny_bind (wpAny_pure (wpAny_pure (hQ _ _)))
theorem bytes_int {n : Int} {u : Tok} {Q : Value → Shared → Prop} (h0 : 0 ≤ n) (h1 : n ≤ 16777216) (hQ : ∀ t k, Q (.bytes (Array.replicate n.toNat 0) t) { s with toks := k }) : wpAny (model prog w) A (call (.type "bytes") [.int n u]) Q E s := by
  refine callType_codes (Q₁ := fun obj s₁ => s₁.TypeIs obj "bytes" ∧ Q obj s₁) F.bm_called (F.bm_typeCall _) F.entry_object_init
    (new_int h0 h1 fun t k => ⟨PySem.W.typeIs_bytes _ _ _, hQ t k⟩) fun obj s₁ h₁ => ?_
  exact ⟨h₁.1, F.args_object_init_2 obj _, object_init_meets F.bm_called.init.lookup F.bm_called.made (by decide) prog w A.in1 _ s₁ ⟨h₁.1, rfl, h₁.2⟩⟩
theorem ints_zero (k : Nat) : KBw.bInts (Array.replicate k 0) = List.replicate k 0 := by simp [KBw.bInts]
theorem bytes_int' {n : Int} {u : Tok} {Q : Value → Shared → Prop} (h0 : 0 ≤ n) (h1 : n ≤ 16777216) (hQ : ∀ b t k, KBw.bInts b = List.replicate n.toNat 0 → Q (.bytes b t) { s with toks := k }) : wpAny (model prog w) A (call (.type "bytes") [.int n u]) Q E s :=
  bytes_int h0 h1 fun t k => hQ _ t k (ints_zero _)
end
end BN

section
variable {h₀ g h : Heap} {L : Addr} {rest mine : List (Addr × Obj)}
end
section
variable {h₀ h : Heap} {L : Addr} {rest l : List (Addr × Obj)} {p q r t : Addr × Obj}
end
namespace BB
theorem has_bytes : typeLookup (.type "bytes") "__bytes__" = pure (some (.builtin "bytes.__bytes__")) := by rw [typeLookup_type, builtinLookup_eq_fast]; kernel_rfl
section
variable {prog : Program} {w : World} {A : Around} {E : Value → Shared → Prop} {s : Shared}
theorem new_bytes {b : Array UInt8} {u : Tok} {Q : Value → Shared → Prop} (hQ : ∀ t k, Q (.bytes b t) { s with toks := k }) :
    codeAny (model prog w) A (.call (.builtin "bytes.__new__") ⟨[.type "bytes", .bytes b u], []⟩) (wants Q E) s := by
  refine codeAny_of_tree ?_
  show wpAny _ A.in1 (do checkBuiltinCall "bytes.__new__" ⟨[.type "bytes", .bytes b u], []⟩; again (.builtin "bytes.__new__" ⟨[.type "bytes", .bytes b u], []⟩)) _ _ s
  refine wpAny_bind (wpAny_of_eq (F.bm_newCall _) (wpAny_pure ⟨plainId_quiet F.bm_plain _, codeAny_builtin F.bm_entry ?_⟩))
  rw [Around.under_plainId F.bm_plain _]
  have hT : s.TypeIs (.bytes b u) "bytes" := typeIs_bytes _ _ _
  unfold Builtin.«bytes.__new__»
  refine wpAny_bind (wpAny_of_eq (a := true) rfl ?_)
  refine bm_if_false rfl ?_
  refine wpAny_bind (wpAny_of_eq F.bm_sub ?_)
  refine bm_if_false rfl ?_
  refine wpAny_bind (wpAny_of_eq (F.bm_bind _) ?_)
  refine wpAny_bind (wpAny_of_eq (a := ()) rfl ?_)
  refine wpAny_bind (wpAny_of_eq (a := ()) rfl ?_)
  refine bm_if_false rfl ?_
  refine wpAny_bind (wpAny_specialOf hT has_bytes ?_)
  refine wpAny_bind (wpAny_rule ?_)
  refine wpAny_bind (wpAny_typeOf hT ?_)
  refine bm_if_true (by decide) ?_
  show wpAny _ _ (if (Value.type "bytes" == Value.type "bytes") = true then _ else _) _ _ _
  refine bm_if_true (by decide) ?_
  first
    | exact wpAny_pure (hQ _ _)
    | exact wpAny_bind (wpAny_pure (wpAny_pure (hQ _ _)))
theorem bytes_bytes {b : Array UInt8} {u : Tok} {Q : Value → Shared → Prop} (hQ : ∀ t k, Q (.bytes b t) { s with toks := k }) : wpAny (model prog w) A (call (.type "bytes") [.bytes b u]) Q E s := by
  refine callType_codes (Q₁ := fun obj s₁ => s₁.TypeIs obj "bytes" ∧ Q obj s₁) F.bm_called (F.bm_typeCall _) F.entry_object_init
    (new_bytes fun t k => ⟨PySem.W.typeIs_bytes _ _ _, hQ t k⟩) fun obj s₁ h₁ => ?_
  exact ⟨h₁.1, F.args_object_init_2 obj _, object_init_meets F.bm_called.init.lookup F.bm_called.made (by decide) prog w A.in1 _ s₁ ⟨h₁.1, rfl, h₁.2⟩⟩
end
theorem u8_inj : ∀ {l l' : List UInt8}, (l.map fun c => (c.toNat : Int)) = (l'.map fun c => (c.toNat : Int)) → l = l'
  | [], [], _ => rfl
  | a :: l, b :: l', h => by
    simp only [List.map_cons, List.cons.injEq] at h
    rw [u8_inj h.2, UInt8.toNat_inj.mp (Int.ofNat_inj.mp h.1)]
theorem ints_ne {b c : Array UInt8} {ks ls : List Int} (hb : KBw.bInts b = ks) (hc : KBw.bInts c = ls) : (b.toList != c.toList) = decide (ks ≠ ls) := by
  subst hb hc
  by_cases h : b.toList = c.toList
  · have : KBw.bInts b = KBw.bInts c := by unfold KBw.bInts; rw [h]
    simp [h, this]
  · have : KBw.bInts b ≠ KBw.bInts c := fun e => h (u8_inj (by unfold KBw.bInts at e; exact e))
    simp [h, this]
section
variable {prog : Program} {w : World} {A : Around} {E : Value → Shared → Prop} {s : Shared} {b c : Array UInt8} {t u : Tok} {ks ls : List Int}
theorem eq_dec {Q : Value → Shared → Prop} (hb : KBw.bInts b = ks) (hc : KBw.bInts c = ls) (h : Q (.bool (decide (ks = ls))) s) : wpAny (model prog w) A (compareOp .Eq (.bytes b t) (.bytes c u)) Q E s :=
  eq_bytes (by
    have e := ints_ne hb hc
    have : (b.toList == c.toList) = decide (ks = ls) := by
      have h2 : (b.toList == c.toList) = !(b.toList != c.toList) := (Bool.not_not _).symm
      rw [h2, e]; by_cases q : ks = ls <;> simp [q]
    rw [this]; exact h)
end
section
variable {prog : Program} {w : World} {A : Around} {E : Value → Shared → Prop} {s : Shared} {value slice : PySem.Expr} {b : Array UInt8} {t : Tok} {h₀ : Heap} {L : Addr} {m : PySem.Str → Option Value} {news : List (Addr × Obj)} {l u : Value} {lo hi : Option Int} {Q : Value → Shared → Prop} {ks ks' : List Int} {i e : Int}
end
end BB
section
variable {h₀ h : Heap} {L : Addr} {rest l : List (Addr × Obj)} {p q r t : Addr × Obj}
end

-- Q6
theorem item_lst {prog : Program} {w : World} {A : Around} {E : Value → Shared → Prop} {s : Shared} {h₀ : Heap} {L : Addr} {news : List (Addr × Obj)} {value slice : PySem.Expr} {l : Addr} {ys : List Value} {n : Nat} {k : Int} {u : Tok} {v : Value} {Q : Value → Shared → Prop}
    (N : News h₀ L s.heap news) (hm : (l, ({ cls := .type "list", data := .seq ys.toArray n } : Obj)) ∈ news) (h0 : 0 ≤ k) (hhi : k < 2 ^ 63) (hx : ys[k.toNat]? = some v)
    (hs : subscripted slice false (.ref l) (.int k u) = operate [.ref l, .int k u] (getItem (.ref l) (.int k u))) (h : Q v s) :
    wpAny (model prog w) A (subscriptTail value slice (.ref l) (.int k u)) Q E s :=
  tail_any (N.isList hm).typeIs slot_list_getitem.lookup (wpAny_getItem_list (N.isList hm) h0 hhi (by simpa using hx) h) hs

-- Q8
section
variable {prog : Program} {w : World} {A : Around} {E : Value → Shared → Prop} {s : Shared} {h₀ : Heap} {L : Addr} {m : Str → Option Value} {news : List (Addr × Obj)} {b : Array UInt8} {ks : List Int} {t : Tok} {i e : Int} {l u : Value} {value slice : PySem.Expr} {Q : Value → Shared → Prop}
end
theorem kinds_tab {prog : Program} {w : World} {h : Heap} (X : (hd.heap_1 w.params).In h) : StrTab prog w h 78 [(.str (Str.ofString "config"), .int 0), (.str (Str.ofString "rapid"), .int 2), (.str (Str.ofString "change"), .int 128)] := by
  have ho : (hd.heap_1 w.params).lookup 78 = some { cls := Value.type "dict", data := Data.dict #[{ hash := PyData.keyHash w.params (Str.ofString "config"), key := Value.str (Str.ofString "config") 275, val := Value.int 0 276 },
      { hash := PyData.keyHash w.params (Str.ofString "rapid"), key := Value.str (Str.ofString "rapid") 277, val := Value.int 2 278 }, { hash := PyData.keyHash w.params (Str.ofString "change"), key := Value.str (Str.ofString "change") 279, val := Value.int 128 280 }] 3 } := by with_unfolding_all rfl
  refine TabAt.ofObj (by decide) (X _ _ ho) (kvs := [(Str.ofString "config", .int 0 276), (Str.ofString "rapid", .int 2 278), (Str.ofString "change", .int 128 280)]) ⟨_, _, ?_, rfl, ?_, ?_, ?_⟩ ?_
  · exact ⟨rfl, rfl, rfl⟩
  · intro e he
    simp only [List.mem_toArray, List.mem_cons, List.not_mem_nil, or_false] at he
    rcases he with rfl | rfl | rfl
    · exact ⟨Str.ofString "config", rfl, rfl⟩
    · exact ⟨Str.ofString "rapid", rfl, rfl⟩
    · exact ⟨Str.ofString "change", rfl, rfl⟩
  · exact .cons rfl rfl (.cons rfl rfl (.cons rfl rfl .nil))
  · simp only [List.map_cons, List.map_nil]; decide
  · exact .cons (.int _ _) (.cons (.int _ _) (.cons (.int _ _) .nil))
theorem kinds_old {w : World} {h : Heap} (X : (hd.heap_1 w.params).In h) : ∃ o, h.get? 78 = some o := TabAt.old (kinds_tab (prog := PySem.Challenge.rw_pq1168_01.row.toRowW.prog) X)

-- Q10
namespace BJ
open Builtin PySem.W.FB
theorem f_buf : typeLookup (.type "bytes") "__buffer__" = pure (some (.builtin "bytes.__buffer__")) := by rw [typeLookup_type, builtinLookup_eq_fast]; kernel_rfl
theorem f_rel : typeLookup (.type "bytes") "__release_buffer__" = pure none := by rw [typeLookup_type, builtinLookup_eq_fast]; kernel_rfl
theorem f_sub : isSubtype (.type "bytes") (.type "bytes") = pure true := by rw [isSubtype_type]; kernel_rfl
section
variable {prog : Program} {w : World} {A : Around} {E : Value → Shared → Prop} {s : Shared} {b : Array UInt8} {u : Tok}
theorem own_buf {Q : Bool → Shared → Prop} (h : Q true s) : wpAny (model prog w) A (Bytes.slotIsOwn (.bytes b u) "__buffer__") Q E s := by
  unfold Bytes.slotIsOwn
  refine wpAny_bind (wpAny_specialOf (typeIs_bytes _ _ _) f_buf ?_)
  dsimp only
  rw [if_neg (by decide +kernel)]
  have e : "bytes.__buffer__".dropRight ("__buffer__".length + 1) = "bytes" := by decide +kernel
  rw [e]
  exact wpAny_isInstance (typeIs_bytes _ _ _) f_sub h
theorem own_rel {Q : Bool → Shared → Prop} (h : Q false s) : wpAny (model prog w) A (Bytes.ownRelease (.bytes b u)) Q E s := by
  unfold Bytes.ownRelease Bytes.slotIsOwn
  refine wpAny_bind (wpAny_bind (wpAny_specialOf (typeIs_bytes _ _ _) f_rel ?_))
  exact wpAny_pure (wpAny_pure h)
theorem take_bytes {Q : Option (Array UInt8 × Option Value) → Shared → Prop} (h : Q (some (b, none)) s) :
    wpAny (model prog w) A (Bytes.takeBufferQuiet? "bytes.join" (.bytes b u) 0) Q E s := by
  unfold Bytes.takeBufferQuiet? Bytes.takeBuffer? Bytes.buffer?
  have hT : s.TypeIs (.bytes b u) "bytes" := typeIs_bytes _ _ _
  refine wpAny_bind (wpAny_attempt ?_)
  repeat (first | refine wpAny_bind (wpAny_specialOf hT f_buf ?_) | refine wpAny_bind (own_buf ?_) | refine wpAny_bind (own_rel ?_) | refine wpAny_bind ?_ | simp only [Bool.not_true, Bool.false_eq_true, if_false] | dsimp only)
  refine wpAny_of_eq (a := some b) rfl ?_
  exact wpAny_pure (wpAny_pure (wpAny_pure (wpAny_pure h)))
end
theorem letgo_all {M : Model} {A : Around} {E : Value → Shared → Prop} {s : Shared} {Q : Unit → Shared → Prop} {keep : List Value} : ∀ {l : List (Value × Option Value)}, (∀ p ∈ l, p.2 = none) → Q () s → wpAny M A (Bytes.joinLetGo l keep) Q E s
  | [], _, h => wpAny_pure h
  | (x, w) :: r, hn, h => by
    obtain rfl : w = none := hn _ (.head _)
    unfold Bytes.joinLetGo
    exact wpAny_bind (wpAny_letGo (letgo_all (fun p hp => hn p (.tail _ hp)) h))

theorem joined_go : ∀ (l : List (Array UInt8)) (k : Nat) (out : Array UInt8), ((l.zipIdx k).foldl (fun (out : Array UInt8) (x : Array UInt8 × Nat) => (if x.2 > 0 then out ++ (#[] : Array UInt8) else out) ++ x.1) out).toList = out.toList ++ (l.map (·.toList)).flatten
  | [], _, _ => by simp
  | p :: l, k, out => by
    rw [List.zipIdx_cons, List.foldl_cons, joined_go l]
    have e : (if k > 0 then out ++ (#[] : Array UInt8) else out) = out := by split <;> simp
    rw [e]; simp
theorem joined_toList (l : List (Array UInt8)) : (Bytes.joined #[] l).toList = (l.map (·.toList)).flatten := by
  have := joined_go l 0 #[]
  simpa [Bytes.joined] using this
theorem joined_size (l : List (Array UInt8)) : (Bytes.joined #[] l).size = (l.map (·.size)).sum := by
  rw [← Array.length_toList, joined_toList, List.length_flatten, List.map_map]; rfl
theorem joined_ints : ∀ (l : List (Array UInt8)), KBw.bInts (Bytes.joined #[] l) = (l.map KBw.bInts).flatten := fun l => by
  unfold KBw.bInts
  rw [joined_toList, List.map_flatten, List.map_map]; rfl
theorem fold_size : ∀ (l : List (Array UInt8)) (k : Nat), l.foldl (fun x y => x + y.size) k = k + (l.map (·.size)).sum
  | [], k => by simp
  | p :: l, k => by rw [List.foldl_cons, fold_size l, List.map_cons, List.sum_cons]; omega
def bvs (bs : List (Array UInt8 × Tok)) : List Value := bs.map fun p => Value.bytes p.1 p.2
set_option maxHeartbeats 4000000 in
theorem meets_joinN {t : Tok} {a : Addr} {bs : List (Array UInt8 × Tok)} (h2 : 2 ≤ bs.length) (hz : (bs.map (fun p => p.1.size)).sum ≤ 1000) :
    Meets («bytes.join» ⟨[.bytes #[] t, .ref a], []⟩) (fun _ R s => s.heap.IsList a (bvs bs).toArray ∧ ∀ t' k, R (.ok (.ret (.bytes (Bytes.joined #[] (bs.map (·.1))) t'))) { s with toks := k }) := by
  refine .of_wp fun prog w A R s hS => ?_
  obtain ⟨hl, h⟩ := hS
  show wpAny _ _ (Bytes.joinItems (.ref a) >>= fun seq => _) _ _ s
  unfold Bytes.joinItems
  refine wpAny_bind (wpAny_bind (wpAny_typeOf hl.typeIs ?_))
  show wpAny _ _ (pure _) _ _ s
  refine wpAny_pure ?_
  obtain ⟨o, ho, hc, n, hd⟩ := hl
  refine wpAny_bind (wpAny_seqItems ho hd ?_)
  dsimp only
  obtain ⟨p0, p1, br, rfl⟩ : ∃ p0 p1 br, bs = p0 :: p1 :: br := by
    match bs, h2 with
    | p0 :: p1 :: br, _ => exact ⟨_, _, _, rfl⟩
  show wpAny _ _ (forIn _ _ _ >>= fun r => _) _ _ s
  generalize hB : p0 :: p1 :: br = bs at *
  refine wpAny_bind ?_
  rw [Std.Legacy.Range.forIn_eq_forIn_range']
  have hn : (bvs bs).toArray.size = bs.length := by simp [bvs]
  refine wpAny_forIn_list _ (fun r st s' => s' = s ∧ ∃ done rest : List (Array UInt8 × Tok), bs = done ++ rest ∧ r = List.range' done.length rest.length ∧ st = ((done.map (·.1)).toArray, done.map fun p => (Value.bytes p.1 p.2, none))) _ ?_ ?_ _ _ ?_
  · rintro i r ⟨parts, taken⟩ s' ⟨rfl, done, rest, hb, hr, hst⟩
    cases rest with
    | nil => simp at hr
    | cons q rest =>
      obtain ⟨q1, q2⟩ := q
      rw [List.length_cons, List.range'_succ] at hr
      injection hr with hi hr
      subst hi hr
      injection hst with e1 e2
      subst e1 e2
      have hg : (bvs bs).toArray.getD done.length Value.none = Value.bytes q1 q2 := by simp [bvs, hb, Array.getD]
      dsimp only
      refine wpAny_bind (wpAny_seqItems ho hd ?_)
      dsimp only
      rw [hg]
      refine bm_if_false (by rw [List.any_map]; simp [Function.comp_def]; first | done | (intros; rfl)) ?_
      refine wpAny_bind (wpAny_holding (take_bytes (b := q1) (u := q2) ?_))
      dsimp only
      refine wpAny_bind (wpAny_seqItems ho hd ?_)
      dsimp only
      refine bm_if_false (by simp) ?_
      refine wpAny_pure ⟨rfl, done ++ [(q1, q2)], rest, by rw [hb]; simp, by simp, by simp⟩
  · rintro ⟨parts, taken⟩ s' ⟨rfl, done, rest, hb, hr, hst⟩
    cases rest with
    | cons q rest => simp [List.range'_succ] at hr
    | nil =>
    rw [List.append_nil] at hb
    subst hb
    injection hst with e1 e2
    subst e1 e2
    dsimp only
    refine wpAny_bind (wpAny_of_eq (a := #[]) rfl ?_)
    have hz' : ((bs.map (·.1)).map (·.size)).sum ≤ 1000 := by rw [List.map_map]; exact hz
    refine bm_if_false (by unfold Bytes.tooLong; rw [List.foldl_toArray, fold_size, sizeLine_eq]; simp [-List.map_map]; omega) ?_
    refine wpAny_bind (wpAny_mkBytes ?_ (by rw [joined_size, sizeLine_eq]; omega))
    refine wpAny_bind (wpAny_holding (wpAny_point ?_))
    refine wpAny_bind (letgo_all ?_ ?_)
    · intro p hp
      obtain ⟨q, _, rfl⟩ := List.mem_map.mp hp
      rfl
    · exact wpAny_pure ⟨_, rfl, h _ _⟩
  · exact ⟨rfl, [], bs, rfl, by simp [hn], rfl⟩
section
variable {prog : Program} {w : World} {A : Around} {E : Value → Shared → Prop} {s : Shared} {t u0 u1 u2 u3 u4 u5 u6 u7 : Tok} {a : Addr} {b0 b1 b2 b3 b4 b5 b6 b7 : Array UInt8} {l0 l1 l2 l3 l4 l5 l6 l7 : List Int}
end
end BJ

section
variable {prog : Program} {w : World} {A : Around} {s : Shared} {h₀ : Heap} {L : Addr} {m : Str → Option Value} {env : Env}
end
section
variable {prog : Program} {w : World} {A : Around} {E : Value → Shared → Prop} {s : Shared} {h₀ : Heap} {L : Addr} {m : Str → Option Value} {env : Env}
end

-- Q14
section
open Builtin Builtin.ObjectAttr

/-- an exception class of the program's own, made by Exception's __new__ -/
def excMk (K : Frag) (C : Addr) : Bool := match K.lookup C with
  | some ⟨_, _, .cls cd, sl⟩ => !cd.abstract && !cd.hasDel && (sl.toList[4]?).join == some (.builtin "Exception.__new__") && !cd.mro.isEmpty && cd.mro.contains (.ref C) && cd.mro.contains (.type "Exception") &&
      !cd.mro.contains (.type "AttributeError") && !cd.mro.contains (.type "NameError") && cd.mro.contains (.type "BaseException") &&
      specialIn K (.ref C) "__call__" == some (some (.builtin "type.__call__")) && instIn K (.ref C) (.type "type") == some true
  | _ => false
structure ExcMk (M : Model) (h : Heap) (C : Addr) : Prop where
  obj : ∃ oc od cd sl, h.get? C = some ⟨oc, od, .cls cd, sl⟩ ∧ cd.abstract = false ∧ cd.hasDel = false ∧ cd.mro.isEmpty = false
  made : Looks M h (Bind.madeBy (.ref C)) (some "Exception.__new__")
  base : Looks M h (Bind.staticBase (.ref C)) (.ref C)
  self : Looks M h (isSubtype (.ref C) (.ref C)) true
  exc : Looks M h (isSubtype (.ref C) (.type "Exception")) true
  noA : Looks M h (isSubtype (.ref C) (.type "AttributeError")) false
  noN : Looks M h (isSubtype (.ref C) (.type "NameError")) false
  bas : Looks M h (isSubtype (.ref C) (.type "BaseException")) true
  call : Looks M h (specialOf (.ref C) "__call__") (some (.builtin "type.__call__"))
  typ : Looks M h (isInstance (.ref C) (.type "type")) true
theorem excMk_of {K : Frag} {M : Model} {h : Heap} (X : K.In h) {C : Addr} (e : excMk K C = true) : ExcMk M h C := by
  unfold excMk at e
  split at e
  · rename_i oc od cd sl ho
    simp only [Bool.and_eq_true, Bool.not_eq_true', beq_iff_eq] at e
    obtain ⟨⟨⟨⟨⟨⟨⟨⟨⟨⟨e1, e2⟩, e3⟩, e4⟩, e5⟩, e6⟩, e7⟩, e8⟩, e9⟩, e10⟩, e11⟩ := e
    have hc : clsIn K C = some cd := by unfold clsIn; rw [ho]
    have hm : Looks M h (mroOf (.ref C)) cd.mro := (looks_clsIn X hc).andThen .now
    obtain ⟨c, l, hl⟩ : ∃ c l, cd.mro = c :: l := by cases q : cd.mro with | nil => rw [q] at e4; cases e4 | cons c l => exact ⟨c, l, rfl⟩
    have made : Looks M h (Bind.madeBy (.ref C)) (some "Exception.__new__") := by
      intro A Q E s k q
      unfold Bind.madeBy
      refine wpAny_bind (hm A _ E s k ?_)
      rw [hl, List.forIn_cons]
      refine wpAny_bind (wpAny_bind (wpAny_bind (wpAny_bind (wpAny_loadPart (k _ _ (X _ _ ho)) (wpAny_pure ?_)))))
      dsimp only
      rw [← Array.getElem?_toList, e3]
      exact wpAny_pure (wpAny_pure (wpAny_pure q))
    have sub : ∀ {v : Value} {b : Bool}, cd.mro.contains v = b → mroIn K C v = some b := fun {v b} q => by unfold mroIn; rw [hc, Option.bind_some, if_neg (by rw [e4]; decide), q]
    refine ⟨⟨oc, od, cd, sl, X _ _ ho, e1, e2, e4⟩, made, ?_, looks_mroIn X (sub e5), looks_mroIn X (sub e6), looks_mroIn X (sub e7), looks_mroIn X (sub e8), looks_mroIn X (sub e9), looks_specialIn X e10, looks_instIn X e11⟩
    intro A Q E s k q
    unfold Bind.staticBase
    refine wpAny_bind (hm A _ E s k ?_)
    rw [hl, List.forIn_cons]
    exact wpAny_bind (wpAny_bind (wpAny_bind (made A _ E s k (wpAny_pure (wpAny_pure (wpAny_pure q))))))
  · cases e
abbrev excObj (C t : Addr) : Obj := { cls := .ref C, data := .fields #[.ref t, .none, .none, .none, .bool false, .none] }
abbrev tupObj (vs : List Value) : Obj := { cls := .type "tuple", data := .seq vs.toArray }
section
variable {prog : Program} {w : World} {A : Around} {K : Frag} {C : Addr} {R : Result → Shared → Prop} {h : Heap} {g : Array GenState} {d : Drawn} {t : Nat} {os : OsState}
theorem new_exc {rest : List Value} (Y : ExcMk (model prog w) h C) (hz : rest.length ≤ sizeLine)
    (hq : R (.ok (.ret (.ref (h.objs.size + 1)))) ⟨(h.push (tupObj rest)).push (excObj C h.objs.size), g, d, t, os⟩) :
    codeAny (model prog w) A (.call (.builtin "Exception.__new__") ⟨.ref C :: rest, []⟩) R ⟨h, g, d, t, os⟩ := by
  obtain ⟨⟨oc, od, cd, sl, hC, e1, e2, e4⟩, made, base, self, exc, noA, noN, bas, call, typ⟩ := Y
  have FB := PySem.F.excBase_Exception
  have hends := FB.ends
  have hstar := FB.noStar
  refine codeAny_call_builtin_code (Code.quiet_builtin _ FB.quiet) ?_
  simp only [checkBuiltinCall, FB.newKind, FB.newSplit, FB.newRow]
  repeat (first | simp only [bne_self_eq_false, Bool.false_eq_true, if_false, Bool.not_true] | lk)
  refine codeAny_builtinAt FB.entry ?_
  unfold Builtin.«BaseException.__new__»
  refine PySem.wpAt_bind ?_
  show PySem.wpAt _ _ _ (stack >>= _) _ _ _
  refine PySem.wpAt_bind (PySem.wpAt_stack fun p below => PySem.wpAt_of_wpAny ?_)
  wp_walk
  refine PySem.wpAt_of_wpAny ?_
  rw [FB.owner]
  have here : Looks (model prog w) h (Bind.madeHere "BaseException.__new__" (.ref C)) () := base.andThen (made.andThen (Looks.of_pure (by simp only [Option.map_some, FB.canon, bne_self_eq_false, Bool.false_eq_true, if_false])))
  repeat (first | simp only [bne_self_eq_false, Bool.false_eq_true, if_false, Bool.not_true] | lk | wp_step)
  refine wpAny_load (Heap.get?_push_of_some _ (Heap.get?_push_of_some _ hC)) ?_
  dsimp only
  rw [e2]
  refine wpAny_pure ?_
  simp only [Bool.false_eq_true, if_false]
  refine wpAny_pure (wpAny_pure ?_)
  show R _ _
  rw [Heap.size_push]
  exact hq

theorem make_exc {rest : List Value} {init : Value} (Y : ExcMk (model prog w) h C) (hz : rest.length ≤ sizeLine) (hi : Looks (model prog w) h (typeLookup (.ref C) "__init__") (some init))
    (hb : ∀ self, Looks (model prog w) h (bindSpecial init self) (init, [self]))
    (hq : codeAny (model prog w) (A.under (.builtin "type.__call__" ⟨.ref C :: rest, []⟩)) (.call init ⟨.ref (h.objs.size + 1) :: rest, []⟩) (InitBack (h.objs.size + 1) R) ⟨(h.push (tupObj rest)).push (excObj C h.objs.size), g, d, t, os⟩) :
    codeAny (model prog w) A (.call (.ref C) ⟨rest, []⟩) R ⟨h, g, d, t, os⟩ := by
  have Y' := Y
  obtain ⟨⟨oc, od, cd, sl, hC, e1, e2, e4⟩, made, base, self, exc, noA, noN, bas, call, typ⟩ := Y
  refine codeAny_of_tree ?_
  show wpAny _ _ (callAny (.ref C) _) _ _ _
  refine nd_load hC ?_
  show wpAny _ _ (callAny.viaDunder (.ref C) _) _ _ _
  unfold callAny.viaDunder
  refine wpAny_bind (call.at ?_)
  dsimp only
  rw [tc_bind]
  refine wpAny_bind (wpAny_pure (wpAny_bind (wpAny_pure ?_)))
  refine wpAny_pure (a := Fin.again (.call (.builtin "type.__call__") ⟨.ref C :: rest, []⟩)) (And.intro rfl ?_)
  refine codeAny_call_builtin_at (Code.quiet_builtin _ (by decide +kernel)) entry_typeCall (check_slot tc_kind tc_split typ (tc_args _ _ _) ?_)
  unfold Builtin.«type.__call__»
  have hm : Looks (model prog w) h (mroOf (.ref C)) cd.mro := ((Looks.ld (part := none) hC).andThen .now).andThen .now
  repeat (first | simp only [e4, Bool.false_eq_true, if_false] | with_reducible refine wpAny_call ?_ | lk)
  refine new_exc Y' hz ?_
  have k : ∀ b o, h.get? b = some o → ((h.push (tupObj rest)).push (excObj C h.objs.size)).get? b = some o := fun b o e => Heap.get?_push_of_some _ (Heap.get?_push_of_some _ e)
  have hx : ((h.push (tupObj rest)).push (excObj C h.objs.size)).get? (h.objs.size + 1) = some (excObj C h.objs.size) := by heap_get
  have t1 : Looks (model prog w) ((h.push (tupObj rest)).push (excObj C h.objs.size)) (typeOf (.ref (h.objs.size + 1))) (.ref C) := (Looks.ld hx).andThen .now
  have s1 := self.keeps k
  have i1 := hi.keeps k
  have b1 := (hb (.ref (h.objs.size + 1))).keeps k
  unfold isInstance callSpecial? specialOf
  repeat (first | with_reducible refine wpAny_call ?_ | lk)
  refine codeAny_mono hq fun r s' z => ?_
  rcases r with e | (v | _ | _ | _) <;> first | exact z | exact z.elim | skip
  obtain ⟨rfl, z⟩ := z
  exact wpAny_pure (wpAny_pure z)
end
section
variable {prog : Program} {w : World} {A : Around} {E : Value → Shared → Prop} {s : Shared} {K : Frag} {C L : Addr} {h₀ : Heap} {m : Str → Option Value} {news : List (Addr × Obj)} {Q : Value → Shared → Prop}
theorem call_exc {pos : List Value} {fI : Addr} (F : Fr h₀ L s.heap m) (X₀ : K.In h₀) (N : News h₀ L s.heap news) (hm : excMk K C = true) (hi : findIn K (.ref C) "__init__" = some (some (.ref fI))) (hf : isFn K (.ref fI) = true) (hz : pos.length ≤ sizeLine)
    (h : ∀ x t h', Fr h₀ L h' m → News h₀ L h' ((x, excObj C t) :: (t, tupObj pos) :: news) → (∀ p ∈ news, p.1 < t) → t < x →
      codeAny (model prog w) (A.under (.builtin "type.__call__" ⟨.ref C :: pos, []⟩)) (.call (.ref fI) ⟨.ref x :: pos, []⟩) (InitBack x fun r s' => match r with | .ok (.ret v) => Q v s' | .ok _ => False | .error e => E e s') { s with heap := h' }) :
    wpAny (model prog w) A (call (.ref C) pos) Q E s := by
  refine wpAny_call ?_
  obtain ⟨hh, g, d, t, os⟩ := s
  have X := X₀.keeps F.keep
  refine make_exc (excMk_of X hm) hz (looks_findIn X hi) (fun self => bind_fn X self (beq_iff_eq.mp hf)) (h _ hh.objs.size _ ((F.push _).push _) ?_ (fun p hp => Heap.lt_size (N p hp).1) (Nat.lt_succ_self _))
  have := (N.push F (tupObj pos)).push (F.push _) (excObj C hh.objs.size)
  rwa [Heap.size_push] at this
end
theorem meta_Exc : typeOf (.type "Exception") = pure (.type "type") := by kernel_rfl
section
variable {prog : Program} {w : World} {A : Around} {E : Value → Shared → Prop} {s : Shared} {K : Frag} {C L x t : Addr} {h₀ : Heap} {m : Str → Option Value} {post : List (Addr × Obj)} {Q : Value → Shared → Prop}
theorem exc_inst (N : News h₀ L s.heap ((x, excObj C t) :: post)) : InstAt s.heap x (excObj C t) C none := ⟨(N _ (.head _)).1, rfl, rfl, trivial⟩
def excTail : List Value → Bool
  | .ref _ :: r => excTail r
  | l => l == [.type "Exception", .type "BaseException", .type "object"]
theorem refuse_exc (self : Value) : ∀ {l : List Value}, excTail l = true → refuseLoop self "__setattr__" l = pure ()
  | v :: r, e => by
    by_cases hv : ∃ c, v = .ref c
    · obtain ⟨c, rfl⟩ := hv
      rw [refuseLoop_ref]; exact refuse_exc self (by unfold excTail at e; exact e)
    · have : excTail (v :: r) = ((v :: r) == [.type "Exception", .type "BaseException", .type "object"]) := by
        cases v <;> first | rfl | exact absurd ⟨_, rfl⟩ hv
      rw [this] at e
      rw [beq_iff_eq.mp e]; exact PySem.F.store_Exception.passes self
  | [], e => by unfold excTail at e; cases e
def excSt (K : Frag) (C : Addr) : Bool := (clsIn K C).any fun cd => excTail cd.mro && cd.mro.contains (.type "object") && !cd.mro.isEmpty && cd.hasDict
theorem osa_exc {R : Result → Shared → Prop} {name : Str} {tk : Tok} {v : Value} (F : Fr h₀ L s.heap m) (X₀ : K.In h₀) (N : News h₀ L s.heap ((x, excObj C t) :: post)) (hm : excSt K C = true) (h2 : ∀ p ∈ post, p.1 ≠ x)
    (ht : takerIn K C name = some none)
    (h : ∀ d h' tk', Fr h₀ L h' m → News h₀ L h' ((x, { excObj C t with dict := some d }) :: post) → R (.ok (.ret .none)) { s with heap := h', toks := tk' }) :
    codeAny (model prog w) A (.call (.builtin "object.__setattr__") ⟨[.ref x, .str name tk, v], []⟩) R s := by
  have X := X₀.keeps F.keep
  have I := exc_inst N
  have SF := PySem.F.store_object
  obtain ⟨cd, hc, ho⟩ := any_some hm
  simp only [Bool.and_eq_true, Bool.not_eq_true'] at ho
  obtain ⟨⟨⟨o1, o2⟩, ne⟩, hd⟩ := ho
  have sub : Looks (model prog w) s.heap (isInstance (.ref x) (.type "object")) true := I.type.andThen (looks_mroIn X (by unfold mroIn; rw [hc, Option.bind_some, if_neg (by rw [ne]; decide), o2]))
  refine codeAny_call_builtin SF.slot.plain SF.entry (@check_slot (model prog w) _ _ s "object.__setattr__" "object" "__setattr__" (.ref x) [.str name tk, v] [] _ SF.kind SF.split sub (SF.args (.ref x) (.str name tk) v) ?_)
  obtain ⟨attr, ha, hr⟩ := Option.bind_eq_some_iff.mp ht
  have hm : Looks (model prog w) s.heap (mroOf (.ref C)) cd.mro := (looks_clsIn X hc).andThen .now
  have L3 : Looks (model prog w) s.heap (storeTaker? attr) none := by
    cases attr with
    | none => cases hr; exact .now
    | some a =>
      obtain ⟨b, hb, q⟩ := Option.map_eq_some_iff.mp hr
      refine (looks_takesIn X hb).andThen ?_
      cases b
      · exact .now
      · cases q
  rw [osa_eq, refuse_eq]
  refine wpAny_bind (wpAny_bind (I.type.here (wpAny_bind (hm.here ?_))))
  rw [refuse_exc _ o1]
  refine wpAny_pure (wpAny_bind (I.type.here (wpAny_bind ((looks_findIn X ha).here (wpAny_bind (L3.here ?_))))))
  have hx := (N _ (.head _)).1
  refine wpAny_bind (wpAny_pure (wpAny_bind (wpAny_bind (wpAny_loadPart hx (wpAny_bind ((looks_clsIn X hc).here ?_))))))
  rw [hd]
  repeat (first | lk | wp_step)
  have hx₁ := Heap.get?_push_of_some { cls := .type "dict", data := .dict #[] } hx
  obtain ⟨hh, g, dr, tk0, os⟩ := s
  have hne : ∀ p ∈ [(hh.objs.size, (⟨.type "dict", none, .dict #[] 0, #[]⟩ : Obj))], p.1 ≠ x := fun p hp => by
    obtain rfl := List.mem_singleton.mp hp
    exact Nat.ne_of_gt (Heap.lt_size hx)
  obtain ⟨U1, U2⟩ := news_upd (pre := [(hh.objs.size, (⟨.type "dict", none, .dict #[] 0, #[]⟩ : Obj))]) (post := post) (d := x) (o := excObj C t) (o' := { excObj C t with dict := some hh.objs.size })
    (f := fun o => { cls := o.cls, dict := some hh.objs.size, data := o.data, slots := o.slots }) (F.push _) (N.push F _) hne h2 rfl rfl
  refine wpAny_update' hx₁ ?_
  repeat (first | lk | wp_step)
  have D := (U2 (hh.objs.size, _) (.head _)).1
  refine wpAny_load D ?_
  dsimp only
  have hno : aRefKeyMayBeTheName name #[] = false := by rw [aRefKeyMayBeTheName_at]; simp
  rw [hno]
  simp only [Bool.false_eq_true, if_false]
  refine wpAny_updatePart D ?_
  have hp : ∀ (hsh : Int) (key : Value), Obj.putName name hsh key v ⟨.type "dict", none, .dict #[] 0, #[]⟩ = ⟨.type "dict", none, .dict #[⟨hsh, key, v⟩] 1, #[]⟩ := fun hsh key => by rw [Obj.putName_eq]; simp [Obj.putNameByArray]
  have hd2 : ∀ p ∈ ((x, ({ excObj C t with dict := some hh.objs.size } : Obj)) :: post), p.1 ≠ hh.objs.size := fun p hp => by
    rcases List.mem_cons.mp hp with rfl | hp
    · exact Nat.ne_of_lt (Heap.lt_size hx)
    · exact Nat.ne_of_lt (Heap.lt_size (N p (List.mem_cons_of_mem _ hp)).1)
  obtain ⟨V1, V2⟩ := news_upd (pre := []) (post := (x, ({ excObj C t with dict := some hh.objs.size } : Obj)) :: post) (d := hh.objs.size) U1 U2 (fun _ h => nomatch h) hd2
    (hp (if name.cps.isEmpty = true then 0 else reduceHash ((model prog w).w.params.strHash name.cps)) (Value.str name tk0)) rfl
  refine wpAny_bind (wpAny_lookBehind (V2 (hh.objs.size, _) (.head _)).1 (pastItsLine_dict (by rw [sizeLine_eq]; show (1 : Nat) ≤ 16777216 + 1; decide)) ?_)
  exact wpAny_pure (h _ _ _ V1 (fun q hq => V2 q (List.mem_cons_of_mem _ hq)))
theorem exc_store {name : Str} {v : Value} {Q : Unit → Shared → Prop} (F : Fr h₀ L s.heap m) (X₀ : K.In h₀) (N : News h₀ L s.heap ((x, excObj C t) :: post)) (hm : excSt K C = true) (h2 : ∀ p ∈ post, p.1 ≠ x)
    (hs : findIn K (.ref C) "__setattr__" = some (some (.builtin "object.__setattr__"))) (ht : takerIn K C name = some none)
    (h : ∀ d h' tk', Fr h₀ L h' m → News h₀ L h' ((x, { excObj C t with dict := some d }) :: post) → Q () { s with heap := h', toks := tk' }) :
    wpAny (model prog w) A (setAttr (.ref x) name v) Q E s :=
  set_plain (X₀.keeps F.keep) (exc_inst N) hs (osa_exc (s := { s with toks := s.toks + 1 }) F X₀ N hm h2 ht fun d h' tk' F' N' => h d h' tk' F' N')
end
section
variable {M : Model} {A : Around} {E : Value → Shared → Prop} {s' : Shared} {base g g₂ h : Heap} {outer : List Env} {L a e t C : Addr} {m : Str → Option Value} {name : Str} {scope : Scope} {cd : Value} {Q : Unit → Shared → Prop} {news : List (Addr × Obj)} {od : Option Addr} {vs : List Value}
def RaisableO (M : Model) (E : Value → Shared → Prop) (v : Value) (s₁ : Shared) : Prop :=
  ∃ a ob vs C, v = .ref a ∧ s₁.heap.get? a = some ob ∧ ob.cls = .ref C ∧ ob.data = .fields vs ∧ vs[1]? = some .none ∧ ExcMk M s₁.heap C ∧ Looks M s₁.heap (typeOf (.ref C)) (.type "type") ∧ E (.ref a) s₁
theorem Raise_mine {env : Env} {e : Expr} {pos : Pos} {Q : Flow → Shared → Prop} {s : Shared} (hh : A.handled = none)
    (h : wpAny M A (eval e env) (RaisableO M E) E s) : wpAny M A (exec (.Raise (some e) none pos) env) Q E s := by
  show wpAny M A (do standAt pos; raiseStmt env (some (do let v ← eval e env; standAt pos; pure v)) none) Q E s
  refine wpAny_bind (wpAny_standAt ?_)
  unfold raiseStmt
  dsimp only
  refine wpAny_bind (wpAny_bind (wpAny_mono h (fun v s₁ h₁ => wpAny_bind (wpAny_standAt (wpAny_pure ?_))) fun _ _ x => x))
  obtain ⟨a, ob, vs, C, rfl, ha, hcls, hd, h1, Y, t3, hE⟩ := h₁
  have hnt : ∀ {Q' : Bool → Shared → Prop}, Q' false s₁ → wpAny M A (isType (.ref a)) Q' E s₁ := by
    intro Q' hq
    simp only [isType, loadHead]
    refine wpAny_bind (wpAny_loadPart ha ?_)
    rw [hd]; exact wpAny_pure hq
  refine wpAny_bind (wpAny_pure ?_)
  dsimp only
  refine wpAny_bind (wpAny_holding ?_)
  unfold excFromValue isExcClass
  refine wpAny_bind (wpAny_bind (hnt ?_))
  simp only [Bool.false_eq_true, if_false]
  refine wpAny_pure ?_
  simp only [Bool.false_eq_true, if_false]
  have t1 : Looks M s₁.heap (typeOf (.ref a)) (.ref C) := hcls ▸ (Looks.ld ha).andThen .now
  have t2 : Looks M s₁.heap (isInstance (.ref a) (.type "BaseException")) true := t1.andThen Y.bas
  refine wpAny_bind (t2.here ?_)
  simp only [if_true]
  refine wpAny_pure ?_
  refine wpAny_bind (hnt ?_)
  simp only [Bool.false_eq_true, if_false]
  unfold raisedInstance
  refine wpAny_bind (wpAny_bind (t1.here (wpAny_bind (t3.here ?_))))
  rw [if_pos (by decide)]
  refine wpAny_pure ?_
  unfold setFlight raiseNew
  refine wpAny_bind (wpAny_bind (wpAny_field ha hd h1 ?_))
  rw [if_neg (by decide)]
  refine wpAny_pure (wpAny_bind (wpAny_handled ?_))
  rw [hh]
  first
    | exact wpAny_throw hE
    | exact wpAny_bind (wpAny_pure (wpAny_throw hE))
end
section
variable {M : Model} {E : Value → Shared → Prop} {s : Shared} {K : Frag} {h₀ : Heap} {L e t C : Addr} {m : Str → Option Value} {news : List (Addr × Obj)} {od : Option Addr}
theorem raisable_mine (F : Fr h₀ L s.heap m) (X₀ : K.In h₀) (N : News h₀ L s.heap ((e, { excObj C t with dict := od }) :: news)) (hm : excMk K C = true) (ht : typeIn K (.ref C) = some (.type "type"))
    (h : E (.ref e) s) : RaisableO M E (.ref e) s :=
  ⟨e, _, _, C, rfl, (N _ (.head _)).1, rfl, rfl, rfl, excMk_of (X₀.keeps F.keep) hm, looks_typeIn (X₀.keeps F.keep) ht, h⟩
end

section
variable {prog : Program} {w : World} {A₀ A : Around} {s : Shared} {base h₀ : Heap} {outer : List Env} {L : Addr} {m : Str → Option Value} {mine rest : List (Addr × Obj)} {K : Frag} {p : Program} {loose : List Str} {mean : ExcName → Option Value} {mg mb : Str → Option Value}
    {R : Result → Shared → Prop} {name qual : Str} {params : Arguments} {body : List Stmt} {scope : Scope} {dV kV doc pm cdv ct oc : Value} {an od : Option Addr} {osl : Array (Option Value)} {f : Addr} {args : Args} {binds : List (Str × Value)} {env : Env}
theorem mem_frames {b : Addr} (hf : env.frame = some L) (hm : b ∈ (env :: outer).filterMap (·.frame)) : b = L ∨ b ∈ outer.filterMap (·.frame) := by
  obtain ⟨env', he, hf'⟩ := List.mem_filterMap.mp hm
  rcases List.mem_cons.mp he with rfl | he
  · exact .inl (Option.some.inj (hf'.symm.trans hf))
  · exact .inr (List.mem_filterMap.mpr ⟨env', he, hf'⟩)
end

end

end
-- W0
section
@[irreducible] noncomputable def prg : Program := PySem.Challenge.rw_pq1168_01.row.toRowW.prog
@[reducible] noncomputable def sat (s : Shared) (h : Heap) (tk : Nat) : Shared := ⟨h, s.gens, s.drawn, tk, s.os⟩
structure WB where
  (w : World) (base : Heap)
/-- what is to be shown of the law, in one world and over one heap below -/
def MainP (q : WB) : Prop := ∀ (s : Shared) (p : Program) (loose : List Str) (mean : ExcName → Option Value) (mg mb : Str → Option Value) (R : Result → Shared → Prop) (l : Addr) (vs : List Value) (n : Nat), q.base = hideAll s.heap [883, 890, l] →
  (hd.heap_1 q.w.params).In s.heap → Top p loose mean mg mb s.heap → s.heap.get? 883 = some (tabObj #[]) → s.heap.get? 890 = some (tabObj #[]) → s.heap.get? l = some { cls := .type "list", data := .seq vs.toArray n } → (hd.heap_1 q.w.params).lookup l = none → vs.length ≤ 63 → (∀ v ∈ vs, ∃ k t, v = .int k t) →
  (hd.heap_1 q.w.params).lookup 883 = none → (hd.heap_1 q.w.params).lookup 890 = none →
  (∀ h' tk, (∀ b o, b ≠ 883 → b ≠ 890 → s.heap.get? b = some o → h'.get? b = some o) → (∃ ps, h'.get? 883 = some (tabObj ps)) → (∃ ps, h'.get? 890 = some (tabObj ps)) → R (.ok (.ret (.bool true))) (sat s h' tk)) →
  codeAny (model prg q.w) callerA (.call (.ref 905) ⟨[.ref l], []⟩) R s
noncomputable def wb : WB := hk ⟨⟨⟨fun _ _ => 0, { strHash := fun _ => 0, shareClass := fun _ => 0, mergeTok := id, idOf := fun _ => 0, idOfShared := fun _ _ => 0, followText := fun _ => false, idOfImm := fun _ => 0 }⟩, {}⟩⟩ MainP
noncomputable def w : World := wb.w
noncomputable def base : Heap := wb.base
structure TP where
  (p : Program) (loose : List Str) (mean : ExcName → Option Value) (mg mb : Str → Option Value)
noncomputable def tp : TP := hk ⟨⟨default, [], fun _ => none, fun _ => none, fun _ => none⟩⟩ fun t => ¬ Top t.p t.loose t.mean t.mg t.mb base
noncomputable def p : Program := tp.p
noncomputable def loose : List Str := tp.loose
noncomputable def mean : ExcName → Option Value := tp.mean
noncomputable def mg : Str → Option Value := tp.mg
noncomputable def mb : Str → Option Value := tp.mb
/-- a symbolic int: written, or the i-th letter, or what a table says at the i-th letter -/
inductive SI
  | lit (n : Int)
  | at (i : Nat)
  | tab (i : Nat) (vs : List Int)
  | off (q : Nat) (o : Int)
  | lin (q : Nat) (o : Int) (r : Nat)
inductive SV
  | none
  | bool (b : Bool)
  | int (n : SI)
  | str (x : Str)
  | bytes (l : List SI)
  | own (i : Nat)
  | imm (v : Value)
inductive SO
  | tup (xs : List SV)
  | list (xs : List SV)
  | inst (C d : Nat)
  | dict (es : List (Str × SV))
  | cell (v : Option SV)
  | range (a b c : Int)
  | exc (C t : Nat) (d : Bool)
  | any
  | idict (i : Nat) (es : List (Int × SV))
  | numl (n : Option Nat)
  | tab (i : Nat) (a : Addr) (es : List (Nat × Nat × Nat))
  | code (q : Str)
  | fn (q : Str) (body : PySem.Expr) (scope : Scope) (cl : List (Str × Nat)) (c : Nat)
/-- a letter's least and most worth, and the worths that it may have -/
abbrev LB := Option Int × Option Int × Option (List Nat)
structure St where
  loc : List (Str × SV)
  objs : List SO
  bnd : List LB
  turn : Bool
  frz : List Nat
  sums : List (List SI × Nat)
inductive RR
  | val (v : SV)
  | vals (vs : List SV)
  | tru (b : Bool)
  | next
  | ret (v : SV)
  | exc (C : Nat)

inductive F2 {α β : Type} (R : α → β → Prop) : List α → List β → Prop
  | nil : F2 R [] []
  | cons {a : α} {b : β} {l : List α} {m : List β} : R a b → F2 R l m → F2 R (a :: l) (b :: m)
namespace F2
variable {α β : Type} {R S : α → β → Prop} {l l' : List α} {m m' : List β}
theorem length (h : F2 R l m) : l.length = m.length := by induction h with | nil => rfl | cons _ _ ih => simp [ih]
theorem mono (h : F2 R l m) (k : ∀ a b, R a b → S a b) : F2 S l m := by induction h with | nil => exact .nil | cons x _ ih => exact .cons (k _ _ x) ih
theorem append (h : F2 R l m) (h' : F2 R l' m') : F2 R (l ++ l') (m ++ m') := by induction h with | nil => exact h' | cons x _ ih => exact .cons x ih
theorem get (h : F2 R l m) : ∀ {i : Nat} {a : α}, l[i]? = some a → ∃ b, m[i]? = some b ∧ R a b := by
  induction h with
  | nil => intro i a e; simp at e
  | cons x _ ih => intro i a e; cases i with
    | zero => simp at e; subst e; exact ⟨_, rfl, x⟩
    | succ i => simp at e ⊢; exact ih e
theorem set (h : F2 R l m) : ∀ {i : Nat} {a : α} {b : β}, R a b → F2 R (l.set i a) (m.set i b) := by
  induction h with
  | nil => intro i a b x; exact .nil
  | cons y t ih => intro i a b x; cases i with
    | zero => exact .cons x t
    | succ i => exact .cons y (ih x)
theorem take (h : F2 R l m) : ∀ n, F2 R (l.take n) (m.take n) := by
  induction h with
  | nil => intro n; simp; exact .nil
  | cons y t ih => intro n; cases n with | zero => exact .nil | succ n => exact .cons y (ih n)
theorem drop (h : F2 R l m) : ∀ n, F2 R (l.drop n) (m.drop n) := by
  induction h with
  | nil => intro n; simp; exact .nil
  | cons y t ih => intro n; cases n with | zero => exact .cons y t | succ n => exact ih n
theorem snoc (h : F2 R l m) {a : α} {b : β} (x : R a b) : F2 R (l ++ [a]) (m ++ [b]) := h.append (.cons x .nil)
end F2

noncomputable def SIR (σ : List Int) : SI → Int → Prop
  | .lit n, k => k = n
  | .at i, k => σ[i]? = some k
  | .tab i vs, k => ∃ d : Int, σ[i]? = some d ∧ 0 ≤ d ∧ vs[d.toNat]? = some k
  | .off q o, k => ∃ a : Int, σ[q]? = some a ∧ k = a + o
  | .lin q o r, k => ∃ a b : Int, σ[q]? = some a ∧ σ[r]? = some b ∧ k = 256 * (a + o) + b
noncomputable def VR (ρ : List Addr) (σ : List Int) : SV → Value → Prop
  | .none, v => v = .none
  | .bool b, v => v = .bool b
  | .int n, v => ∃ k t, v = .int k t ∧ SIR σ n k
  | .str x, v => ∃ t, v = .str x t
  | .bytes l, v => ∃ b t, v = .bytes b t ∧ F2 (SIR σ) l (KBw.bInts b)
  | .own i, v => ∃ a, ρ[i]? = some a ∧ v = .ref a
  | .imm x, v => v = x
noncomputable def ER (ρ : List Addr) (σ : List Int) (e : Str × SV) (d : DictEntry) : Prop := (∃ t, d.key = .str e.1 t) ∧ VR ρ σ e.2 d.val
noncomputable def CellsR (ρ : List Addr) (cells : List (Str × Nat)) (cl : List (Str × Addr)) : Prop := ∀ x i, cells.lookup x = some i → ∃ a, ρ[i]? = some a ∧ cl.lookup x = some a
noncomputable def KR (ρ : List Addr) (σ : List Int) (e : Int × SV) (d : Int × Value) : Prop := e.1 = d.1 ∧ VR ρ σ e.2 d.2
/-- the places of a def's table of codes -/
noncomputable def TabR (ρ : List Addr) : List (Nat × Nat × Nat) → List Value → Prop
  | [], l => l = []
  | e :: r, l => ∃ c t, l = rawInt e.1 :: rawInt e.2.1 :: .ref c :: t ∧ ρ[e.2.2]? = some c ∧ TabR ρ r t
noncomputable def noPars : Arguments := ⟨[], [], none, [], [], none, []⟩
noncomputable def OR (ρ : List Addr) (σ : List Int) : SO → Obj → Prop
  | .tup xs, o => ∃ vs, o = { cls := .type "tuple", data := .seq vs.toArray } ∧ F2 (VR ρ σ) xs vs
  | .list xs, o => ∃ vs n, o = { cls := .type "list", data := .seq vs.toArray n } ∧ F2 (VR ρ σ) xs vs
  | .inst C d, o => ∃ a, ρ[d]? = some a ∧ o = instObj C a
  | .dict es, o => ∃ ds n, o = dictOf ds n ∧ F2 (ER ρ σ) es ds
  | .cell none, o => o.data = .cell none
  | .cell (some v), o => ∃ v', o.data = .cell (some v') ∧ VR ρ σ v v'
  | .range a b c, o => ∃ t u v, o = { cls := .type "range", data := .fields #[.int a t, .int b u, .int c v] }
  | .exc C t d, o => ∃ a od, ρ[t]? = some a ∧ o = { excObj C a with dict := od } ∧ (d = false → od = none)
  | .any, _ => True
  | .idict i es, o => (∃ a, ρ[i]? = some a ∧ a ≠ sysModules) ∧ ∃ kvs, (∀ prog w, o.IsDictOf (intKind prog w) kvs) ∧ F2 (KR ρ σ) es kvs
  | .numl c, o => ∃ (vs : List Value) (n : Nat), o = { cls := .type "list", data := .seq vs.toArray n } ∧ vs.length ≤ 63 ∧ (∀ v ∈ vs, ∃ k t, v = .int k t) ∧ ∀ i, c = some i → σ[i]? = some (vs.length : Int)
  | .tab i a es, o => ρ[i]? = some a ∧ ∃ ps, o = tabObj ps ∧ TabR ρ es ps.toList
  | .code q, o => ∃ vs t, o.data = .fields vs ∧ vs[1]? = some (.str q t)
  | .fn q body scope cl c, o => ∃ clos pm c' ctv, ρ[c]? = some c' ∧ CellsR ρ cl clos ∧ o = kla_obj "<lambda>" q noPars body scope clos pm c' ctv
noncomputable def Bd (b : Option Int × Option Int) (k : Int) : Prop := (∀ l, b.1 = some l → l ≤ k) ∧ ∀ u, b.2 = some u → k ≤ u
noncomputable def BR (b : LB) (k : Int) : Prop := Bd (b.1, b.2.1) k ∧ ∀ D, b.2.2 = some D → ∃ d ∈ D, k = (d : Int)
/-- the frame sum of octets lies in four letters -/
noncomputable def SumR (σ : List Int) (q : List SI × Nat) : Prop := ∃ ns fs, F2 (SIR σ) q.1 ns ∧ sumL ns = fs ∧ ∀ j f, fs[j]? = some f → σ[q.2 + j]? = some f

theorem pre_get {α : Type} {l m : List α} (h : l <+: m) {i : Nat} {a : α} (e : l[i]? = some a) : m[i]? = some a := by
  obtain ⟨t, rfl⟩ := h
  obtain ⟨hi, _⟩ := List.getElem?_eq_some_iff.mp e
  rw [List.getElem?_append_left hi]; exact e
theorem SIR.mono {σ σ' : List Int} (h : σ <+: σ') {n : SI} {k : Int} (x : SIR σ n k) : SIR σ' n k := by
  cases n with
  | lit n => exact x
  | «at» i => exact pre_get h x
  | tab i vs => obtain ⟨d, a, b⟩ := x; exact ⟨d, pre_get h a, b⟩
  | off q o => obtain ⟨d, a, b⟩ := x; exact ⟨d, pre_get h a, b⟩
  | lin q o r => obtain ⟨d, e, a, b, c⟩ := x; exact ⟨d, e, pre_get h a, pre_get h b, c⟩
theorem SumR.mono {σ σ' : List Int} (h : σ <+: σ') {q : List SI × Nat} (x : SumR σ q) : SumR σ' q := by
  obtain ⟨ns, fs, a, b, c⟩ := x
  exact ⟨ns, fs, F2.mono a fun _ _ y => y.mono h, b, fun j f e => pre_get h (c j f e)⟩
theorem VR.mono {ρ ρ' : List Addr} {σ σ' : List Int} (hr : ρ <+: ρ') (hs : σ <+: σ') {v : SV} {x : Value} (h : VR ρ σ v x) : VR ρ' σ' v x := by
  cases v with
  | int n => obtain ⟨k, t, rfl, h⟩ := h; exact ⟨k, t, rfl, h.mono hs⟩
  | bytes l => obtain ⟨b, t, rfl, h⟩ := h; exact ⟨b, t, rfl, F2.mono h fun _ _ y => y.mono hs⟩
  | own i => obtain ⟨a, e, rfl⟩ := h; exact ⟨a, pre_get hr e, rfl⟩
  | _ => exact h
theorem VRs.mono {ρ ρ' : List Addr} {σ σ' : List Int} (hr : ρ <+: ρ') (hs : σ <+: σ') {v : List SV} {x : List Value} (h : F2 (VR ρ σ) v x) : F2 (VR ρ' σ') v x := h.mono fun _ _ y => y.mono hr hs
theorem CellsR.mono {ρ ρ' : List Addr} (h : ρ <+: ρ') {cells : List (Str × Nat)} {cl : List (Str × Addr)} (x : CellsR ρ cells cl) : CellsR ρ' cells cl := fun y i e => by
  obtain ⟨a, h1, h2⟩ := x y i e
  exact ⟨a, pre_get h h1, h2⟩
theorem TabR.mono {ρ ρ' : List Addr} (h : ρ <+: ρ') : ∀ {es : List (Nat × Nat × Nat)} {l : List Value}, TabR ρ es l → TabR ρ' es l
  | [], _, x => x
  | _ :: _, _, ⟨c, t, e, hc, r⟩ => ⟨c, t, e, pre_get h hc, r.mono h⟩
theorem OR.mono {ρ ρ' : List Addr} {σ σ' : List Int} (hr : ρ <+: ρ') (hs : σ <+: σ') {v : SO} {x : Obj} (h : OR ρ σ v x) : OR ρ' σ' v x := by
  cases v with
  | tup xs => obtain ⟨vs, e, h⟩ := h; exact ⟨vs, e, VRs.mono hr hs h⟩
  | list xs => obtain ⟨vs, n, e, h⟩ := h; exact ⟨vs, n, e, VRs.mono hr hs h⟩
  | inst C d => obtain ⟨a, e, h⟩ := h; exact ⟨a, pre_get hr e, h⟩
  | dict es => obtain ⟨ds, n, e, h⟩ := h; exact ⟨ds, n, e, h.mono fun _ _ y => ⟨y.1, y.2.mono hr hs⟩⟩
  | cell c => cases c with
    | none => exact h
    | some c => obtain ⟨v, e, h⟩ := h; exact ⟨v, e, h.mono hr hs⟩
  | range a b c => exact h
  | exc C t d => obtain ⟨a, od, e, h⟩ := h; exact ⟨a, od, pre_get hr e, h⟩
  | any => trivial
  | idict i es => obtain ⟨⟨a, ha, hn⟩, kvs, e, h⟩ := h; exact ⟨⟨a, pre_get hr ha, hn⟩, kvs, e, h.mono fun _ _ y => ⟨y.1, y.2.mono hr hs⟩⟩
  | numl c => obtain ⟨vs, n, e, z, a, b⟩ := h; exact ⟨vs, n, e, z, a, fun i hi => pre_get hs (b i hi)⟩
  | tab i a es => obtain ⟨e, ps, ho, h⟩ := h; exact ⟨pre_get hr e, ps, ho, h.mono hr⟩
  | code q => exact h
  | fn q body scope cl c => obtain ⟨clos, pm, c', ctv, e, h, ho⟩ := h; exact ⟨clos, pm, c', ctv, pre_get hr e, h.mono hr, ho⟩

/-- a frame at work -/
structure FC where
  (cn : Str) (cs : Scope) (L a : Addr) (ccd : Value) (cl : List (Str × Addr)) (outer : List Env) (A₀ A : Around) (g₀ : Heap) (extra : List (Addr × Obj)) (pin : Option (Str → Option Value)) (fz : List (Nat × Obj)) (own : Bool)
abbrev FC.env (Γ : FC) : Env := envX Γ.cn Γ.cs Γ.L Γ.a Γ.ccd Γ.cl
abbrev FC.ofs (Γ : FC) : List Addr := Γ.outer.filterMap (·.frame)
structure WF (Γ : FC) (lvl : Nat) : Prop where
  frames : Γ.A.frames = some (Γ.env :: Γ.outer)
  hand : Γ.A.handled = none
  kind : Γ.cs.kind = .function
  room : Γ.A.depth + 4 * lvl + 8 < recursionLimit
  units : Γ.A.units + 30 * lvl + 200 < cLine

section
structure FSx (Γ : FC) (st : St) (ρ : List Addr) (σ : List Int) (h : Heap) (g : Heap) (m : Str → Option Value) (os : List Obj) : Prop where
  T : KtsTurn Γ.ofs Γ.g₀ g
  T0 : st.turn = false → g = Γ.g₀
  B : Below Γ.A₀ base Γ.outer g
  D : KtsDicts Γ.ofs g
  F : Fr g Γ.L h m
  N : News g Γ.L h (ρ.zip os ++ Γ.extra)
  O : F2 (OR ρ σ) st.objs os
  len : ρ.length = os.length
  M : ∀ x v, st.loc.lookup x = some v → ∃ v', m x = some v' ∧ VR ρ σ v v'
  asc : ρ.Nodup
  ap : ∀ q ∈ Γ.extra, q.1 ∉ ρ
  bd : F2 BR st.bnd σ
  sm : ∀ q ∈ st.sums, SumR σ q
  Mp : ∀ m₀, Γ.pin = some m₀ → m = m₀
  Z : ∀ q ∈ Γ.fz, os[q.1]? = some q.2 ∧ ((q.2.cls = .type "tuple" ∧ ∃ vs n, q.2.data = .seq vs n) ∨ q.1 ∈ st.frz)
inductive FS (Γ : FC) (st : St) (ρ : List Addr) (σ : List Int) (h : Heap) : Prop
  | mk (g : Heap) (m : Str → Option Value) (os : List Obj) (F : FSx Γ st ρ σ h g m os)
/-- an exception of class C on its way, met in the frame Γ: it came from a def that Γ called -/
inductive XSs (Γ : FC) (st : St) (C e : Addr) (ρ : List Addr) (σ : List Int) (h : Heap) : Prop
  | mk (g : Heap) (m : Str → Option Value) (os : List Obj) (g₁ : Heap) (t : Addr) (vs : List Value) (T : KtsTurn Γ.ofs Γ.g₀ g) (T0 : st.turn = false → g = Γ.g₀) (B : Below Γ.A₀ base Γ.outer g) (D : KtsDicts Γ.ofs g) (F : Fr g Γ.L g₁ m)
    (R : RaisedS base g₁ (Γ.env :: Γ.outer) e (.ref C) t vs (ρ.zip os ++ Γ.extra) h) (U : g₁.UpToSlots h) (O : F2 (OR ρ σ) st.objs os) (len : ρ.length = os.length)
    (M : ∀ x v, st.loc.lookup x = some v → ∃ v', m x = some v' ∧ VR ρ σ v v') (asc : ρ.Nodup) (ap : ∀ q ∈ Γ.extra, q.1 ∉ ρ) (bd : F2 BR st.bnd σ) (sm : ∀ q ∈ st.sums, SumR σ q)
    (Z : ∀ q ∈ Γ.fz, os[q.1]? = some q.2 ∧ ((q.2.cls = .type "tuple" ∧ ∃ vs n, q.2.data = .seq vs n) ∨ q.1 ∈ st.frz))
/-- an exception of class C, raised in the frame Γ itself -/
inductive XSm (Γ : FC) (st : St) (C e : Addr) (ρ : List Addr) (σ : List Int) (h : Heap) : Prop
  | mk (g : Heap) (m : Str → Option Value) (os : List Obj) (t : Addr) (vs : List Value) (od : Option Addr) (F : FSx Γ st ρ σ h g m os) (N : News g Γ.L h [(e, { excObj C t with dict := od }), (t, tupObj vs)]) (off : ∀ q ∈ ρ.zip os ++ Γ.extra, q.1 ≠ e ∧ q.1 ≠ t)
noncomputable def XS (Γ : FC) (st : St) (C e : Addr) (ρ : List Addr) (σ : List Int) (h : Heap) : Prop := XSs Γ st C e ρ σ h ∨ (Γ.own = true ∧ XSm Γ st C e ρ σ h)
abbrev Rel (α : Type) := List Addr → List Int → RR → α → Prop
noncomputable def Post {α : Type} (rel : Rel α) (Γ : FC) (ρ : List Addr) (σ : List Int) (s : Shared) (outs : List (RR × St)) (Q : α → Shared → Prop) (E : Value → Shared → Prop) : Prop :=
  ∀ o ∈ outs, ∀ ρ' σ' h' tk', ρ <+: ρ' → σ <+: σ' →
    (∀ a, rel ρ' σ' o.1 a → FS Γ o.2 ρ' σ' h' → Q a (sat s h' tk')) ∧
    (∀ C e, o.1 = .exc C → XS Γ o.2 C e ρ' σ' h' → E (.ref e) (sat s h' tk'))
abbrev Outs := Option (List (RR × St))
inductive Nxt {α β : Type} (rel1 : Rel α) (rel2 : Rel β) (Γ : FC) (ρ : List Addr) (σ : List Int) (s : Shared) (f : RR → St → Outs) (Q : β → Shared → Prop) (E : Value → Shared → Prop) (a : α) (s1 : Shared) : Prop
  | mk (r : RR) (st1 : St) (ρ1 : List Addr) (σ1 : List Int) (h1 : Heap) (tk1 : Nat) (l2 : List (RR × St)) (e : s1 = (sat s h1 tk1)) (hr : ρ <+: ρ1) (hs : σ <+: σ1) (hf : f r st1 = some l2) (ra : rel1 ρ1 σ1 r a) (F : FS Γ st1 ρ1 σ1 h1) (P : Post rel2 Γ ρ1 σ1 s1 l2 Q E)
/-- the machine's branches, without matchers -/
noncomputable def ob {α β : Type} (d : Option α) (f : α → Option β) : Option β := Option.rec none f d
noncomputable def gd {β : Type} (c : Bool) (x : Option β) : Option β := Bool.rec none x c
noncomputable def cnd {β : Type} (c : Bool) (x y : β) : β := Bool.rec y x c
noncomputable def orE {β : Type} (x y : Option β) : Option β := Option.rec y (fun r => some r) x
theorem dead {α : Type} {q : α} {G : Prop} (h : (none : Option α) = some q) : G := nomatch h
theorem i_ob {α β : Type} {d : Option α} {f : α → Option β} {q : β} {G : Prop} (k : ∀ x, f x = some q → d = some x → G) (h : ob d f = some q) : G := by
  cases d with
  | none => exact dead h
  | some x => exact k x h rfl
theorem i_gd {β : Type} {d : Bool} {f : Option β} {q : β} {G : Prop} (k : f = some q → d = true → G) (h : gd d f = some q) : G := by
  cases d with
  | false => exact dead h
  | true => exact k h rfl
theorem i_cnd {β : Type} {d : Bool} {f g q : β} {G : Prop} (k1 : f = q → d = true → G) (k2 : g = q → d = false → G) (h : cnd d f g = q) : G := by
  cases d with
  | true => exact k1 h rfl
  | false => exact k2 h rfl
theorem i_or {β : Type} {x y : Option β} {q : β} {G : Prop} (k1 : x = some q → G) (k2 : y = some q → G) (h : orE x y = some q) : G := by
  cases x with
  | none => exact k2 h
  | some r => exact k1 h
noncomputable def isExc : RR → Bool := RR.rec (fun _ => false) (fun _ => false) (fun _ => false) false (fun _ => false) (fun _ => true)
noncomputable def bndL (f : RR → St → Outs) (l : List (RR × St)) : Outs := List.rec (some []) (fun o _ ih => cnd (isExc o.1) (ob ih fun l => some (o :: l)) (ob (f o.1 o.2) fun a => ob ih fun l => some (a ++ l))) l
noncomputable def bnd (x : Outs) (f : RR → St → Outs) : Outs := ob x (bndL f)
theorem bndL_spec {f : RR → St → Outs} {l : List (RR × St)} : ∀ {outs}, bndL f l = some outs → ∀ o ∈ l, (isExc o.1 = true → o ∈ outs) ∧ (isExc o.1 = false → ∃ l2, f o.1 o.2 = some l2 ∧ ∀ o2 ∈ l2, o2 ∈ outs) := by
  induction l with
  | nil => intro _ _ _ hm; cases hm
  | cons p r ih =>
    intro outs h o hm
    refine i_cnd (fun h e => i_ob (fun l h hl => ?_) h) (fun h e => i_ob (fun a h ha => i_ob (fun l h hl => ?_) h) h) h
    · cases h
      rcases List.mem_cons.mp hm with rfl | hm
      · exact ⟨fun _ => .head _, fun z => absurd (e.symm.trans z) Bool.noConfusion⟩
      · exact ⟨fun z => .tail _ ((ih hl o hm).1 z), fun z => let ⟨l2, a, b⟩ := (ih hl o hm).2 z; ⟨l2, a, fun o2 h2 => .tail _ (b o2 h2)⟩⟩
    · cases h
      rcases List.mem_cons.mp hm with rfl | hm
      · exact ⟨fun z => absurd (e.symm.trans z) Bool.noConfusion, fun _ => ⟨a, ha, fun o2 h2 => List.mem_append_left _ h2⟩⟩
      · exact ⟨fun z => List.mem_append_right _ ((ih hl o hm).1 z), fun z => let ⟨l2, c, b⟩ := (ih hl o hm).2 z; ⟨l2, c, fun o2 h2 => List.mem_append_right _ (b o2 h2)⟩⟩
inductive PostB {α β : Type} (rel1 : Rel α) (rel2 : Rel β) (Γ : FC) (ρ : List Addr) (σ : List Int) (s : Shared) (f : RR → St → Outs) (Q : β → Shared → Prop) (E : Value → Shared → Prop) (x : Outs) : Prop
  | mk (l : List (RR × St)) (e : x = some l) (P : Post rel1 Γ ρ σ s l (Nxt rel1 rel2 Γ ρ σ s f Q E) E)
inductive NxtR {α β γ : Type} (rel : List Addr → List Int → γ → α → Prop) (rel2 : Rel β) (Γ : FC) (ρ : List Addr) (σ : List Int) (s : Shared) (f : γ → St → Outs) (Q : β → Shared → Prop) (E : Value → Shared → Prop) (a : α) (s1 : Shared) : Prop
  | mk (v : γ) (st1 : St) (ρ1 : List Addr) (σ1 : List Int) (h1 : Heap) (tk1 : Nat) (l2 : List (RR × St)) (e : s1 = (sat s h1 tk1)) (hr : ρ <+: ρ1) (hs : σ <+: σ1) (hf : f v st1 = some l2) (ra : rel ρ1 σ1 v a) (F : FS Γ st1 ρ1 σ1 h1) (P : Post rel2 Γ ρ1 σ1 s1 l2 Q E)
inductive NxtB {β : Type} (rel2 : Rel β) (Γ : FC) (ρ : List Addr) (σ : List Int) (s : Shared) (f : Bool → St → Outs) (Q : β → Shared → Prop) (E : Value → Shared → Prop) (a : Bool) (s1 : Shared) : Prop
  | mk (st1 : St) (ρ1 : List Addr) (σ1 : List Int) (h1 : Heap) (tk1 : Nat) (l2 : List (RR × St)) (e : s1 = (sat s h1 tk1)) (hr : ρ <+: ρ1) (hs : σ <+: σ1) (hf : f a st1 = some l2) (F : FS Γ st1 ρ1 σ1 h1) (P : Post rel2 Γ ρ1 σ1 s1 l2 Q E)
theorem post_bind {α β : Type} {rel1 : Rel α} {rel2 : Rel β} {Γ : FC} {ρ : List Addr} {σ : List Int} {s : Shared} {f : RR → St → Outs} {Q : β → Shared → Prop} {E : Value → Shared → Prop} {x : Outs} {outs : List (RR × St)}
    (h : bnd x f = some outs) (P : Post rel2 Γ ρ σ s outs Q E) (hx : ∀ ρ σ C a, ¬ rel1 ρ σ (.exc C) a) : PostB rel1 rel2 Γ ρ σ s f Q E x := by
  cases x with
  | none => exact dead h
  | some l =>
    refine ⟨l, rfl, fun o ho ρ' σ' h' tk' hr hs => ?_⟩
    obtain ⟨h1, h2⟩ := bndL_spec h o ho
    constructor
    · intro a ra F
      have hn : isExc o.1 = false := by
        obtain ⟨o1, o2⟩ := o
        cases o1 <;> first | rfl | exact absurd ra (hx _ _ _ _)
      obtain ⟨l2, e2, m2⟩ := h2 hn
      refine ⟨o.1, o.2, ρ', σ', h', tk', l2, rfl, hr, hs, e2, ra, F, fun o2 ho2 ρ2 σ2 h2' tk2 hr2 hs2 => ?_⟩
      exact P o2 (m2 o2 ho2) ρ2 σ2 h2' tk2 (hr.trans hr2) (hs.trans hs2)
    · intro C e hC X
      exact (P o (h1 (by rw [hC]; rfl)) ρ' σ' h' tk' hr hs).2 C e hC X
/-- one outcome, here -/
theorem post_one {α : Type} {rel : Rel α} {Γ : FC} {ρ : List Addr} {σ : List Int} {s : Shared} {r : RR} {st : St} {Q : α → Shared → Prop} {E : Value → Shared → Prop} (P : Post rel Γ ρ σ s [(r, st)] Q E)
    {ρ' : List Addr} {σ' : List Int} {h' : Heap} {tk' : Nat} (hr : ρ <+: ρ') (hs : σ <+: σ') {a : α} (ra : rel ρ' σ' r a) (F : FS Γ st ρ' σ' h') : Q a (sat s h' tk') :=
  (P _ (.head _) ρ' σ' h' tk' hr hs).1 a ra F
end
noncomputable def relE : Rel Value := fun ρ σ r x => match r with | .val v => VR ρ σ v x | _ => False
noncomputable def relEs : Rel (List Value) := fun ρ σ r x => match r with | .vals vs => F2 (VR ρ σ) vs x | _ => False
noncomputable def relT : Rel Bool := fun _ _ r x => match r with | .tru b => x = b | _ => False
noncomputable def relS : Rel Flow := fun ρ σ r x => match r with | .next => x = .next | .ret v => ∃ y, x = .ret y ∧ VR ρ σ v y | _ => False
end
-- W1
section
/-- what a piece of code sees: its scope, the cells' objects, a comprehension's own name, how deep it may call, whether loops may stand -/
structure SC where
  (cs : Scope) (cells : List (Str × Nat)) (cv : Option (Str × SV)) (lvl : Nat) (loop : Bool) (code : Value) (cn : Str)
inductive Task
  | E (sc : SC) (e : PySem.Expr)
  | Es (sc : SC) (es : List PySem.Expr)
  | T (sc : SC) (e : PySem.Expr)
  | Ch (sc : SC) (a : SV) (ops : List CmpOp) (rs : List PySem.Expr)
  | S (sc : SC) (s : Stmt)
  | Ss (sc : SC) (l : List Stmt)
  | C (lvl : Nat) (f : SV) (args : List SV)
  | Comp (sc : SC) (t : Option PySem.Expr) (elt : PySem.Expr) (x : Str) (items : List SV) (ys : List SV)
  | Loop (sc : SC) (target : PySem.Expr) (body : List Stmt) (items : List SV)
  | Whl (sc : SC) (test : PySem.Expr) (body : List Stmt) (k : Nat)
abbrev Run := Task → St → Outs
section
variable {β : Type} {q : β} {G : Prop}
noncomputable def iLit (v : SI) (f : Int → Option β) : Option β := SI.rec f (fun _ => none) (fun _ _ => none) (fun _ _ => none) (fun _ _ _ => none) v
theorem i_iLit {v : SI} {f : Int → Option β} (k : ∀ a, f a = some q → v = .lit a → G) (h : iLit v f = some q) : G := by cases v <;> first | exact k _ h rfl | exact dead h
noncomputable def iAt (v : SI) (f : Nat → Option β) : Option β := SI.rec (fun _ => none) f (fun _ _ => none) (fun _ _ => none) (fun _ _ _ => none) v
theorem i_iAt {v : SI} {f : Nat → Option β} (k : ∀ a, f a = some q → v = .«at» a → G) (h : iAt v f = some q) : G := by cases v <;> first | exact k _ h rfl | exact dead h
noncomputable def iTab (v : SI) (f : Nat → List Int → Option β) : Option β := SI.rec (fun _ => none) (fun _ => none) f (fun _ _ => none) (fun _ _ _ => none) v
theorem i_iTab {v : SI} {f : Nat → List Int → Option β} (k : ∀ a b, f a b = some q → v = .tab a b → G) (h : iTab v f = some q) : G := by cases v <;> first | exact k _ _ h rfl | exact dead h
noncomputable def iOff (v : SI) (f : Nat → Int → Option β) : Option β := SI.rec (fun _ => none) (fun _ => none) (fun _ _ => none) f (fun _ _ _ => none) v
theorem i_iOff {v : SI} {f : Nat → Int → Option β} (k : ∀ a b, f a b = some q → v = .off a b → G) (h : iOff v f = some q) : G := by cases v <;> first | exact k _ _ h rfl | exact dead h
noncomputable def iLin (v : SI) (f : Nat → Int → Nat → Option β) : Option β := SI.rec (fun _ => none) (fun _ => none) (fun _ _ => none) (fun _ _ => none) f v
theorem i_iLin {v : SI} {f : Nat → Int → Nat → Option β} (k : ∀ a b c, f a b c = some q → v = .lin a b c → G) (h : iLin v f = some q) : G := by cases v <;> first | exact k _ _ _ h rfl | exact dead h
noncomputable def onNone (v : SV) (f : Option β) : Option β := SV.rec f (fun _ => none) (fun _ => none) (fun _ => none) (fun _ => none) (fun _ => none) (fun _ => none) v
theorem i_onNone {v : SV} {f : Option β} (k : f = some q → v = .none → G) (h : onNone v f = some q) : G := by cases v <;> first | exact k h rfl | exact dead h
noncomputable def onBool (v : SV) (f : Bool → Option β) : Option β := SV.rec none f (fun _ => none) (fun _ => none) (fun _ => none) (fun _ => none) (fun _ => none) v
theorem i_onBool {v : SV} {f : Bool → Option β} (k : ∀ a, f a = some q → v = .bool a → G) (h : onBool v f = some q) : G := by cases v <;> first | exact k _ h rfl | exact dead h
noncomputable def onInt (v : SV) (f : SI → Option β) : Option β := SV.rec none (fun _ => none) f (fun _ => none) (fun _ => none) (fun _ => none) (fun _ => none) v
theorem i_onInt {v : SV} {f : SI → Option β} (k : ∀ a, f a = some q → v = .int a → G) (h : onInt v f = some q) : G := by cases v <;> first | exact k _ h rfl | exact dead h
noncomputable def onStr (v : SV) (f : Str → Option β) : Option β := SV.rec none (fun _ => none) (fun _ => none) f (fun _ => none) (fun _ => none) (fun _ => none) v
theorem i_onStr {v : SV} {f : Str → Option β} (k : ∀ a, f a = some q → v = .str a → G) (h : onStr v f = some q) : G := by cases v <;> first | exact k _ h rfl | exact dead h
noncomputable def onBytes (v : SV) (f : List SI → Option β) : Option β := SV.rec none (fun _ => none) (fun _ => none) (fun _ => none) f (fun _ => none) (fun _ => none) v
noncomputable def onOwn (v : SV) (f : Nat → Option β) : Option β := SV.rec none (fun _ => none) (fun _ => none) (fun _ => none) (fun _ => none) f (fun _ => none) v
theorem i_onOwn {v : SV} {f : Nat → Option β} (k : ∀ a, f a = some q → v = .own a → G) (h : onOwn v f = some q) : G := by cases v <;> first | exact k _ h rfl | exact dead h
noncomputable def onImm (v : SV) (f : Value → Option β) : Option β := SV.rec none (fun _ => none) (fun _ => none) (fun _ => none) (fun _ => none) (fun _ => none) f v
theorem i_onImm {v : SV} {f : Value → Option β} (k : ∀ a, f a = some q → v = .imm a → G) (h : onImm v f = some q) : G := by cases v <;> first | exact k _ h rfl | exact dead h
noncomputable def oTup (v : SO) (f : List SV → Option β) : Option β := SO.rec f (fun _ => none) (fun _ _ => none) (fun _ => none) (fun _ => none) (fun _ _ _ => none) (fun _ _ _ => none) none (fun _ _ => none) (fun _ => none) (fun _ _ _ => none) (fun _ => none) (fun _ _ _ _ _ => none) v
theorem i_oTup {v : SO} {f : List SV → Option β} (k : ∀ a, f a = some q → v = .tup a → G) (h : oTup v f = some q) : G := by cases v <;> first | exact k _ h rfl | exact dead h
noncomputable def oList (v : SO) (f : List SV → Option β) : Option β := SO.rec (fun _ => none) f (fun _ _ => none) (fun _ => none) (fun _ => none) (fun _ _ _ => none) (fun _ _ _ => none) none (fun _ _ => none) (fun _ => none) (fun _ _ _ => none) (fun _ => none) (fun _ _ _ _ _ => none) v
theorem i_oList {v : SO} {f : List SV → Option β} (k : ∀ a, f a = some q → v = .list a → G) (h : oList v f = some q) : G := by cases v <;> first | exact k _ h rfl | exact dead h
noncomputable def oInst (v : SO) (f : Nat → Nat → Option β) : Option β := SO.rec (fun _ => none) (fun _ => none) f (fun _ => none) (fun _ => none) (fun _ _ _ => none) (fun _ _ _ => none) none (fun _ _ => none) (fun _ => none) (fun _ _ _ => none) (fun _ => none) (fun _ _ _ _ _ => none) v
theorem i_oInst {v : SO} {f : Nat → Nat → Option β} (k : ∀ a b, f a b = some q → v = .inst a b → G) (h : oInst v f = some q) : G := by cases v <;> first | exact k _ _ h rfl | exact dead h
noncomputable def oDict (v : SO) (f : List (Str × SV) → Option β) : Option β := SO.rec (fun _ => none) (fun _ => none) (fun _ _ => none) f (fun _ => none) (fun _ _ _ => none) (fun _ _ _ => none) none (fun _ _ => none) (fun _ => none) (fun _ _ _ => none) (fun _ => none) (fun _ _ _ _ _ => none) v
theorem i_oDict {v : SO} {f : List (Str × SV) → Option β} (k : ∀ a, f a = some q → v = .dict a → G) (h : oDict v f = some q) : G := by cases v <;> first | exact k _ h rfl | exact dead h
noncomputable def oCell (v : SO) (f : Option SV → Option β) : Option β := SO.rec (fun _ => none) (fun _ => none) (fun _ _ => none) (fun _ => none) f (fun _ _ _ => none) (fun _ _ _ => none) none (fun _ _ => none) (fun _ => none) (fun _ _ _ => none) (fun _ => none) (fun _ _ _ _ _ => none) v
theorem i_oCell {v : SO} {f : Option SV → Option β} (k : ∀ a, f a = some q → v = .cell a → G) (h : oCell v f = some q) : G := by cases v <;> first | exact k _ h rfl | exact dead h
noncomputable def oRange (v : SO) (f : Int → Int → Int → Option β) : Option β := SO.rec (fun _ => none) (fun _ => none) (fun _ _ => none) (fun _ => none) (fun _ => none) f (fun _ _ _ => none) none (fun _ _ => none) (fun _ => none) (fun _ _ _ => none) (fun _ => none) (fun _ _ _ _ _ => none) v
theorem i_oRange {v : SO} {f : Int → Int → Int → Option β} (k : ∀ a b c, f a b c = some q → v = .range a b c → G) (h : oRange v f = some q) : G := by cases v <;> first | exact k _ _ _ h rfl | exact dead h
noncomputable def oExc (v : SO) (f : Nat → Nat → Bool → Option β) : Option β := SO.rec (fun _ => none) (fun _ => none) (fun _ _ => none) (fun _ => none) (fun _ => none) (fun _ _ _ => none) f none (fun _ _ => none) (fun _ => none) (fun _ _ _ => none) (fun _ => none) (fun _ _ _ _ _ => none) v
theorem i_oExc {v : SO} {f : Nat → Nat → Bool → Option β} (k : ∀ a b c, f a b c = some q → v = .exc a b c → G) (h : oExc v f = some q) : G := by cases v <;> first | exact k _ _ _ h rfl | exact dead h
noncomputable def oIdict (v : SO) (f : Nat → List (Int × SV) → Option β) : Option β := SO.rec (fun _ => none) (fun _ => none) (fun _ _ => none) (fun _ => none) (fun _ => none) (fun _ _ _ => none) (fun _ _ _ => none) none f (fun _ => none) (fun _ _ _ => none) (fun _ => none) (fun _ _ _ _ _ => none) v
theorem i_oIdict {v : SO} {f : Nat → List (Int × SV) → Option β} (k : ∀ a b, f a b = some q → v = .idict a b → G) (h : oIdict v f = some q) : G := by cases v <;> first | exact k _ _ h rfl | exact dead h
noncomputable def oNuml (v : SO) (f : Option Nat → Option β) : Option β := SO.rec (fun _ => none) (fun _ => none) (fun _ _ => none) (fun _ => none) (fun _ => none) (fun _ _ _ => none) (fun _ _ _ => none) none (fun _ _ => none) f (fun _ _ _ => none) (fun _ => none) (fun _ _ _ _ _ => none) v
theorem i_oNuml {v : SO} {f : Option Nat → Option β} (k : ∀ a, f a = some q → v = .numl a → G) (h : oNuml v f = some q) : G := by cases v <;> first | exact k _ h rfl | exact dead h
noncomputable def oTab (v : SO) (f : Nat → Addr → List (Nat × Nat × Nat) → Option β) : Option β := SO.rec (fun _ => none) (fun _ => none) (fun _ _ => none) (fun _ => none) (fun _ => none) (fun _ _ _ => none) (fun _ _ _ => none) none (fun _ _ => none) (fun _ => none) f (fun _ => none) (fun _ _ _ _ _ => none) v
theorem i_oTab {v : SO} {f : Nat → Addr → List (Nat × Nat × Nat) → Option β} (k : ∀ a b c, f a b c = some q → v = .tab a b c → G) (h : oTab v f = some q) : G := by cases v <;> first | exact k _ _ _ h rfl | exact dead h
noncomputable def oCode (v : SO) (f : Str → Option β) : Option β := SO.rec (fun _ => none) (fun _ => none) (fun _ _ => none) (fun _ => none) (fun _ => none) (fun _ _ _ => none) (fun _ _ _ => none) none (fun _ _ => none) (fun _ => none) (fun _ _ _ => none) f (fun _ _ _ _ _ => none) v
theorem i_oCode {v : SO} {f : Str → Option β} (k : ∀ a, f a = some q → v = .code a → G) (h : oCode v f = some q) : G := by cases v <;> first | exact k _ h rfl | exact dead h
noncomputable def oFn (v : SO) (f : Str → PySem.Expr → Scope → List (Str × Nat) → Nat → Option β) : Option β := SO.rec (fun _ => none) (fun _ => none) (fun _ _ => none) (fun _ => none) (fun _ => none) (fun _ _ _ => none) (fun _ _ _ => none) none (fun _ _ => none) (fun _ => none) (fun _ _ _ => none) (fun _ => none) f v
theorem i_oFn {v : SO} {f : Str → PySem.Expr → Scope → List (Str × Nat) → Nat → Option β} (k : ∀ a b c d e, f a b c d e = some q → v = .fn a b c d e → G) (h : oFn v f = some q) : G := by cases v <;> first | exact k _ _ _ _ _ h rfl | exact dead h
noncomputable def rVal (f : SV → St → Option β) (r : RR) (st : St) : Option β := RR.rec (fun v => f v st) (fun _ => none) (fun _ => none) none (fun _ => none) (fun _ => none) r
noncomputable def rVals (f : List SV → St → Option β) (r : RR) (st : St) : Option β := RR.rec (fun _ => none) (fun v => f v st) (fun _ => none) none (fun _ => none) (fun _ => none) r
noncomputable def rTru (f : Bool → St → Option β) (r : RR) (st : St) : Option β := RR.rec (fun _ => none) (fun _ => none) (fun v => f v st) none (fun _ => none) (fun _ => none) r
noncomputable def l0 {α : Type} (l : List α) (f : Option β) : Option β := List.rec f (fun _ _ _ => none) l
noncomputable def lc {α : Type} (l : List α) (f : α → List α → Option β) : Option β := List.rec none (fun a l _ => f a l) l
theorem i_l0 {α : Type} {l : List α} {f : Option β} (k : f = some q → l = [] → G) (h : l0 l f = some q) : G := by
  cases l with
  | nil => exact k h rfl
  | cons => exact dead h
theorem i_lc {α : Type} {l : List α} {f : α → List α → Option β} (k : ∀ a r, f a r = some q → l = a :: r → G) (h : lc l f = some q) : G := by
  cases l with
  | nil => exact dead h
  | cons a r => exact k a r h rfl
noncomputable def l1 {α : Type} (l : List α) (f : α → Option β) : Option β := lc l fun a r => l0 r (f a)
noncomputable def l2 {α : Type} (l : List α) (f : α → α → Option β) : Option β := lc l fun a r => l1 r (f a)
theorem i_l1 {α : Type} {l : List α} {f : α → Option β} (k : ∀ a, f a = some q → l = [a] → G) (h : l1 l f = some q) : G := i_lc (fun a r h e => i_l0 (fun h e' => k a h (by rw [e, e'])) h) h
theorem i_l2 {α : Type} {l : List α} {f : α → α → Option β} (k : ∀ a b, f a b = some q → l = [a, b] → G) (h : l2 l f = some q) : G := i_lc (fun a r h e => i_l1 (fun b h e' => k a b h (by rw [e, e'])) h) h
noncomputable def vRef (v : Value) (f : Addr → Option β) : Option β := match v with
  | .ref a => f a
  | _ => none
theorem i_vRef {v : Value} {f : Addr → Option β} (k : ∀ a, f a = some q → v = .ref a → G) (h : vRef v f = some q) : G := by cases v <;> first | exact k _ h rfl | exact dead h
noncomputable def vType (v : Value) (f : String → Option β) : Option β := match v with
  | .type a => f a
  | _ => none
theorem i_vType {v : Value} {f : String → Option β} (k : ∀ a, f a = some q → v = .type a → G) (h : vType v f = some q) : G := by cases v <;> first | exact k _ h rfl | exact dead h
noncomputable def vBlt (v : Value) (f : String → Option β) : Option β := match v with
  | .builtin a => f a
  | _ => none
theorem i_vBlt {v : Value} {f : String → Option β} (k : ∀ a, f a = some q → v = .builtin a → G) (h : vBlt v f = some q) : G := by cases v <;> first | exact k _ h rfl | exact dead h
noncomputable def dSeq (v : Data) (f : Array Value → Nat → Option β) : Option β := match v with
  | .seq a n => f a n
  | _ => none
theorem i_dSeq {v : Data} {f : Array Value → Nat → Option β} (k : ∀ a n, f a n = some q → v = .seq a n → G) (h : dSeq v f = some q) : G := by cases v <;> first | exact k _ _ h rfl | exact dead h
end
noncomputable def St.addO (st : St) (o : SO) : St := ⟨st.loc, st.objs ++ [o], st.bnd, st.turn, st.frz, st.sums⟩
noncomputable def St.setO (st : St) (i : Nat) (o : SO) : St := ⟨st.loc, st.objs.set i o, st.bnd, st.turn, st.frz, st.sums⟩
noncomputable def St.addB (st : St) (b : LB) : St := ⟨st.loc, st.objs, st.bnd ++ [b], st.turn, st.frz, st.sums⟩
noncomputable def setB (st : St) (i : Nat) (b : LB) : St := ⟨st.loc, st.objs, st.bnd.set i b, st.turn, st.frz, st.sums⟩
noncomputable def St.bind (st : St) (x : Str) (v : SV) : St := ⟨(x, v) :: st.loc, st.objs, st.bnd, st.turn, st.frz, st.sums⟩
noncomputable def ok1 (r : RR) (st : St) : Outs := some [(r, st)]
noncomputable def okv (v : SV) (st : St) : Outs := some [(.val v, st)]
noncomputable def okb (b : Bool) (st : St) : Outs := some [(.val (.bool b), st)]
/-- a new object -/
noncomputable def newO (o : SO) (st : St) : Outs := some [(.val (.own st.objs.length), st.addO o)]
section
variable (P : Params)
noncomputable def kget (a : Addr) : Option Obj := List.lookup a (hd.heap_1 P)
noncomputable def ofK : Value → Option SV
  | .none => some .none
  | .bool b => some (.bool b)
  | .int n _ => some (.int (.lit n))
  | .str x _ => some (.str x)
  | .bytes b _ => some (.bytes ((KBw.bInts b).map .lit))
  | .ref a => some (.imm (.ref a))
  | .type n => some (.imm (.type n))
  | .builtin n => some (.imm (.builtin n))
  | _ => none
noncomputable def ofKs (l : List Value) : Option (List SV) := List.rec (some []) (fun v _ ih => ob (ofK v) fun x => ob ih fun l => some (x :: l)) l
end
inductive EnvR (Γ : FC) (ρ : List Addr) (σ : List Int) : SC → Env → Prop
  | fn {sc : SC} : sc.cs = Γ.cs → sc.cv = none → CellsR ρ sc.cells Γ.cl → (sc.code = .none ∨ sc.code = Γ.ccd) → sc.cn = Γ.cn → EnvR Γ ρ σ sc Γ.env
  | comp {sc : SC} {scope : Scope} {cl : List (Str × Addr)} {C : Addr} {oC : Obj} {m₂ : Str → Option Value} {x : Str} {v : SV} {v' : Value} : sc.cs = relabel scope Γ.env → scope.kind = .function → sc.cv = some (x, v) → CellsR ρ sc.cells cl → (C, oC) ∈ Γ.extra →
      LCg.NsObj oC m₂ → m₂ x = some v' → VR ρ σ v v' → sc.loop = false → EnvR Γ ρ σ sc (compEnvC scope cl C Γ.env)
theorem EnvR.mono {Γ : FC} {ρ ρ' : List Addr} {σ σ' : List Int} (hr : ρ <+: ρ') (hs : σ <+: σ') {sc : SC} {env : Env} (x : EnvR Γ ρ σ sc env) : EnvR Γ ρ' σ' sc env := by
  cases x with
  | fn a b c d e => exact .fn a b (c.mono hr) d e
  | comp a b c d e f g i j => exact .comp a b c (d.mono hr) e f g (i.mono hr hs) j
/-- a def's own scope -/
structure ScR (Γ : FC) (ρ : List Addr) (sc : SC) : Prop where
  cs : sc.cs = Γ.cs
  cv : sc.cv = none
  cells : CellsR ρ sc.cells Γ.cl
  own : Γ.own = true
  code : sc.code = .none ∨ sc.code = Γ.ccd
  cn : sc.cn = Γ.cn
theorem ScR.mono {Γ : FC} {ρ ρ' : List Addr} (h : ρ <+: ρ') {sc : SC} (x : ScR Γ ρ sc) : ScR Γ ρ' sc := ⟨x.cs, x.cv, x.cells.mono h, x.own, x.code, x.cn⟩
theorem ScR.env {Γ : FC} {ρ : List Addr} {σ : List Int} {sc : SC} (x : ScR Γ ρ sc) : EnvR Γ ρ σ sc Γ.env := .fn x.cs x.cv x.cells x.code x.cn
/-- a comprehension's turns that are left, with a test or without -/
noncomputable def CRest (prog : Program) (w : World) (A : Around) (h₀ : Heap) (L : Addr) (m : Str → Option Value) (env : Env) (t : Option PySem.Expr) (elt : PySem.Expr) (x : Str) (scope : Scope) (cl : List (Str × Addr)) (s : Shared) (S : List (Addr × Obj) → Prop) (P : Nat → Value → Prop)
    (Fin : List Value → List (Addr × Obj) → Prop) (n i : Nat) (ys : List Value) (news : List (Addr × Obj)) : Prop := match t with
  | none => LCg.CompRest prog w A h₀ L m env elt x scope cl s S P Fin n i ys news
  | some ct => LCt.CompRestT prog w A h₀ L m env ct elt x scope cl s S P Fin n i ys news
noncomputable def selfWhole : PySem.Expr → Bool
  | .UnaryOp .Not _ _ => true
  | .BoolOp .. => true
  | .Compare .. => true
  | _ => false
section
structure Good (ih : Run) : Prop where
  E : ∀ sc e st outs, ih (.E sc e) st = some outs → ∀ Γ ρ σ env s Q X, WF Γ sc.lvl → EnvR Γ ρ σ sc env → FS Γ st ρ σ s.heap → Post relE Γ ρ σ s outs Q X → wpAny (model prg w) Γ.A (eval e env) Q X s
  Es : ∀ sc es st outs, ih (.Es sc es) st = some outs → ∀ Γ ρ σ env pos s Q X, WF Γ sc.lvl → EnvR Γ ρ σ sc env → FS Γ st ρ σ s.heap → Post relEs Γ ρ σ s outs Q X → wpAny (model prg w) Γ.A (spliced (backTo pos (starEach es env))) Q X s
  T : ∀ sc e st outs, ih (.T sc e) st = some outs → ∀ Γ ρ σ env whole s Q X, WF Γ sc.lvl → EnvR Γ ρ σ sc env → (selfWhole e = true ∨ whole = eval e env) → FS Γ st ρ σ s.heap → Post relT Γ ρ σ s outs Q X → wpAny (model prg w) Γ.A (isTrue e env whole) Q X s
  Ch : ∀ sc a ops rs st outs, ih (.Ch sc a ops rs) st = some outs → ∀ Γ ρ σ env pos x s Q X, WF Γ sc.lvl → EnvR Γ ρ σ sc env → VR ρ σ a x → FS Γ st ρ σ s.heap → Post relT Γ ρ σ s outs Q X → wpAny (model prg w) Γ.A (testChain pos x ops (evalEach rs env)) Q X s
  S : ∀ sc t st outs, ih (.S sc t) st = some outs → ∀ Γ ρ σ s Q X, WF Γ sc.lvl → ScR Γ ρ sc → (sc.loop = true → PassesOwn (model prg w) Γ.A Γ.env X) → Γ.pin = none → FS Γ st ρ σ s.heap → Post relS Γ ρ σ s outs Q X → wpAny (model prg w) Γ.A (exec t Γ.env) Q X s
  Ss : ∀ sc l st outs, ih (.Ss sc l) st = some outs → ∀ Γ ρ σ s Q X, WF Γ sc.lvl → ScR Γ ρ sc → (sc.loop = true → PassesOwn (model prg w) Γ.A Γ.env X) → Γ.pin = none → FS Γ st ρ σ s.heap → Post relS Γ ρ σ s outs Q X → wpAny (model prg w) Γ.A (execs l Γ.env) Q X s
  Loop : ∀ sc x px body items st outs, ih (.Loop sc (.Name x px) body items) st = some outs → ∀ Γ ρ σ s Q X, WF Γ sc.lvl → ScR Γ ρ sc → sc.loop = true → sc.cs.names.lookup x = some .local → PassesOwn (model prg w) Γ.A Γ.env X → Γ.pin = none →
    ∀ (I : Addr) (fp : List Addr) (n : Nat) (P : Nat → Value → Prop) (T : Nat → Heap → Prop) (i : Nat), Walks prg w Γ.A I fp [I] n P T → (∀ i h, T i h → ∃ o, h.get? I = some o) → (∀ b ∈ fp, b = I ∨ (∃ q ∈ Γ.fz, ρ[q.1]? = some b) ∨ ∃ o, base.get? b = some o) → I ∉ ρ → (∀ q ∈ Γ.extra, q.1 ≠ I) → I ≠ Γ.L → Γ.g₀.get? I = none →
    T i s.heap → i + items.length = n → (∀ j sv, items[j]? = some sv → ∀ v ρ' σ', ρ <+: ρ' → σ <+: σ' → P (i + j) v → VR ρ' σ' sv v) → FS Γ st ρ σ s.heap → Post relS Γ ρ σ s outs Q X →
    codeAny (model prg w) Γ.A (.forLoop (.Name x px) (.ref I) body [] Γ.env) (fun r s' => match r with | .ok f => Q f s' | .error e => cameBackBy (model prg w) Γ.A Γ.env X e s') s
  Whl : ∀ sc test body k st outs, ih (.Whl sc test body k) st = some outs → ∀ Γ ρ σ s Q X, WF Γ sc.lvl → ScR Γ ρ sc → sc.loop = true → PassesOwn (model prg w) Γ.A Γ.env X → Γ.pin = none → FS Γ st ρ σ s.heap → Post relS Γ ρ σ s outs Q X → WhlRest prg w Γ.A X Γ.env test body [] Q k s
  Comp : ∀ sc t elt x items ys st outs, ih (.Comp sc t elt x items ys) st = some outs → (∀ o ∈ outs, isExc o.1 = false) → ∀ Γ ρ σ scope cl, sc.cs = relabel scope Γ.env → scope.kind = .function → CellsR ρ sc.cells cl → sc.loop = false → WF Γ sc.lvl → ∀ m, Γ.pin = some m → ∀ (s : Shared) (h₁ : Heap) (S : List (Addr × Obj) → Prop) (P : Nat → Value → Prop) (Fin : List Value → List (Addr × Obj) → Prop) i vs os,
    FSx Γ st ρ σ h₁ Γ.g₀ m os → st.turn = false → F2 (VR ρ σ) ys vs → (∀ j sv, items[j]? = some sv → ∀ v ρ' σ', ρ <+: ρ' → σ <+: σ' → P (i + j) v → VR ρ' σ' sv v) →
    (∀ ρ1 σ1 st1 h1 os1, ρ <+: ρ1 → FSx Γ st1 ρ1 σ1 h1 Γ.g₀ m os1 → S (ρ1.zip os1 ++ Γ.extra)) →
    (∀ o ∈ outs, ∀ ρ' σ' h' os' vs', ρ <+: ρ' → σ <+: σ' → relEs ρ' σ' o.1 vs' → o.2.turn = false → FSx Γ o.2 ρ' σ' h' Γ.g₀ m os' → Fin vs' (ρ'.zip os' ++ Γ.extra)) →
    CRest prg w Γ.A Γ.g₀ Γ.L m Γ.env t elt x scope cl s S P Fin items.length i vs (ρ.zip os ++ Γ.extra)
  C : ∀ lvl f args st outs, ih (.C lvl f args) st = some outs → ∀ Γ ρ σ x xs s Q X, WF Γ lvl → VR ρ σ f x → F2 (VR ρ σ) args xs → FS Γ st ρ σ s.heap → Post relE Γ ρ σ s outs Q X → wpAny (model prg w) Γ.A (call x xs) Q X s
end
/-- what is said of a run of statements from one state -/
noncomputable def SsG (sc : SC) (l : List Stmt) (st : St) (outs : List (RR × St)) : Prop := ∀ Γ ρ σ s Q X, WF Γ sc.lvl → ScR Γ ρ sc → (sc.loop = true → PassesOwn (model prg w) Γ.A Γ.env X) → Γ.pin = none → FS Γ st ρ σ s.heap → Post relS Γ ρ σ s outs Q X → wpAny (model prg w) Γ.A (execs l Γ.env) Q X s
/-- what is said of a call from one state -/
noncomputable def CG (lvl : Nat) (a : Addr) (args : List SV) (st : St) (outs : List (RR × St)) : Prop := ∀ Γ ρ σ xs s Q X, WF Γ lvl → F2 (VR ρ σ) args xs → FS Γ st ρ σ s.heap → Post relE Γ ρ σ s outs Q X → wpAny (model prg w) Γ.A (call (.ref a) xs) Q X s
section
variable {ih : Run} {α : Type} {rel2 : Rel α} {Γ : FC} {ρ : List Addr} {σ : List Int} {s : Shared} {Q : α → Shared → Prop} {X : Value → Shared → Prop} {outs : List (RR × St)} {sc : SC} {st : St} {env : Env}
theorem relE_exc : ∀ ρ σ C (a : Value), ¬ relE ρ σ (.exc C) a := fun _ _ _ _ h => h
theorem relEs_exc : ∀ ρ σ C (a : List Value), ¬ relEs ρ σ (.exc C) a := fun _ _ _ _ h => h
theorem relT_exc : ∀ ρ σ C (a : Bool), ¬ relT ρ σ (.exc C) a := fun _ _ _ _ h => h
theorem relS_exc : ∀ ρ σ C (a : Flow), ¬ relS ρ σ (.exc C) a := fun _ _ _ _ h => h
theorem nxtV {f : SV → St → Outs} {a : Value} {s1 : Shared} (N : Nxt relE rel2 Γ ρ σ s (rVal f) Q X a s1) : NxtR VR rel2 Γ ρ σ s f Q X a s1 := by
  obtain ⟨r, st1, ρ1, σ1, h1, tk1, l2, e, hr, hs, hf, ra, F, P⟩ := N
  cases r with
  | val v => exact ⟨v, st1, ρ1, σ1, h1, tk1, l2, e, hr, hs, hf, ra, F, P⟩
  | _ => cases ra
theorem nxtVs {f : List SV → St → Outs} {a : List Value} {s1 : Shared} (N : Nxt relEs rel2 Γ ρ σ s (rVals f) Q X a s1) : NxtR (fun ρ σ => F2 (VR ρ σ)) rel2 Γ ρ σ s f Q X a s1 := by
  obtain ⟨r, st1, ρ1, σ1, h1, tk1, l2, e, hr, hs, hf, ra, F, P⟩ := N
  cases r with
  | vals v => exact ⟨v, st1, ρ1, σ1, h1, tk1, l2, e, hr, hs, hf, ra, F, P⟩
  | _ => cases ra
theorem nxtT {f : Bool → St → Outs} {a : Bool} {s1 : Shared} (N : Nxt relT rel2 Γ ρ σ s (rTru f) Q X a s1) : NxtB rel2 Γ ρ σ s f Q X a s1 := by
  obtain ⟨r, st1, ρ1, σ1, h1, tk1, l2, e, hr, hs, hf, ra, F, P⟩ := N
  cases r with
  | tru v => cases ra; exact ⟨st1, ρ1, σ1, h1, tk1, l2, e, hr, hs, hf, F, P⟩
  | _ => cases ra
variable (G : Good ih)
include G
/-- e is evaluated, then f goes on -/
theorem seqE {e : PySem.Expr} {f : SV → St → Outs} {K : Value → Shared → Prop} (h : bnd (ih (.E sc e) st) (rVal f) = some outs) (W : WF Γ sc.lvl) (V : EnvR Γ ρ σ sc env) (F : FS Γ st ρ σ s.heap) (P : Post rel2 Γ ρ σ s outs Q X)
    (k : ∀ v a st1 ρ1 σ1 h1 tk1 l2, ρ <+: ρ1 → σ <+: σ1 → f v st1 = some l2 → VR ρ1 σ1 v a → EnvR Γ ρ1 σ1 sc env → FS Γ st1 ρ1 σ1 h1 → Post rel2 Γ ρ1 σ1 (sat s h1 tk1) l2 Q X → K a (sat s h1 tk1)) :
    wpAny (model prg w) Γ.A (eval e env) K X s := by
  obtain ⟨l, hl, P'⟩ := post_bind (rel1 := relE) h P relE_exc
  refine wpAny_mono (G.E _ _ _ _ hl _ _ _ _ _ _ _ W V F P') (fun a s1 N => ?_) fun _ _ x => x
  obtain ⟨v, st1, ρ1, σ1, h1, tk1, l2, rfl, hr, hs, hf, ra, F1, P1⟩ := nxtV N
  exact k _ _ _ _ _ _ _ _ hr hs hf ra (V.mono hr hs) F1 P1
theorem seqEs {es : List PySem.Expr} {pos : Pos} {f : List SV → St → Outs} {K : List Value → Shared → Prop} (h : bnd (ih (.Es sc es) st) (rVals f) = some outs) (W : WF Γ sc.lvl) (V : EnvR Γ ρ σ sc env) (F : FS Γ st ρ σ s.heap) (P : Post rel2 Γ ρ σ s outs Q X)
    (k : ∀ v a st1 ρ1 σ1 h1 tk1 l2, ρ <+: ρ1 → σ <+: σ1 → f v st1 = some l2 → F2 (VR ρ1 σ1) v a → EnvR Γ ρ1 σ1 sc env → FS Γ st1 ρ1 σ1 h1 → Post rel2 Γ ρ1 σ1 (sat s h1 tk1) l2 Q X → K a (sat s h1 tk1)) :
    wpAny (model prg w) Γ.A (spliced (backTo pos (starEach es env))) K X s := by
  obtain ⟨l, hl, P'⟩ := post_bind (rel1 := relEs) h P relEs_exc
  refine wpAny_mono (G.Es _ _ _ _ hl _ _ _ _ _ _ _ _ W V F P') (fun a s1 N => ?_) fun _ _ x => x
  obtain ⟨v, st1, ρ1, σ1, h1, tk1, l2, rfl, hr, hs, hf, ra, F1, P1⟩ := nxtVs N
  exact k _ _ _ _ _ _ _ _ hr hs hf ra (V.mono hr hs) F1 P1
theorem seqT {e : PySem.Expr} {whole : Sem Value} {f : Bool → St → Outs} {K : Bool → Shared → Prop} (h : bnd (ih (.T sc e) st) (rTru f) = some outs) (W : WF Γ sc.lvl) (V : EnvR Γ ρ σ sc env) (hw : selfWhole e = true ∨ whole = eval e env) (F : FS Γ st ρ σ s.heap) (P : Post rel2 Γ ρ σ s outs Q X)
    (k : ∀ a st1 ρ1 σ1 h1 tk1 l2, ρ <+: ρ1 → σ <+: σ1 → f a st1 = some l2 → EnvR Γ ρ1 σ1 sc env → FS Γ st1 ρ1 σ1 h1 → Post rel2 Γ ρ1 σ1 (sat s h1 tk1) l2 Q X → K a (sat s h1 tk1)) :
    wpAny (model prg w) Γ.A (isTrue e env whole) K X s := by
  obtain ⟨l, hl, P'⟩ := post_bind (rel1 := relT) h P relT_exc
  refine wpAny_mono (G.T _ _ _ _ hl _ _ _ _ _ _ _ _ W V hw F P') (fun a s1 N => ?_) fun _ _ x => x
  obtain ⟨st1, ρ1, σ1, h1, tk1, l2, rfl, hr, hs, hf, F1, P1⟩ := nxtT N
  exact k _ _ _ _ _ _ _ hr hs hf (V.mono hr hs) F1 P1
end
section
variable {Γ : FC} {ρ : List Addr} {σ : List Int} {s : Shared} {Q : Value → Shared → Prop} {X : Value → Shared → Prop} {outs : List (RR × St)} {st : St}
/-- the outcome is one value; the state of the heap is as it was -/
theorem post_v {v : SV} (h : okv v st = some outs) (P : Post relE Γ ρ σ s outs Q X) (F : FS Γ st ρ σ s.heap) {x : Value} (hv : VR ρ σ v x) (tk : Nat) : Q x { s with toks := tk } := by
  cases h
  exact post_one P (List.prefix_refl _) (List.prefix_refl _) (a := x) (show relE ρ σ (.val v) x from hv) F
end

end
-- W3
section
theorem zip_mem {ρ : List Addr} {os : List Obj} (hl : ρ.length = os.length) {a : Addr} (h : a ∈ ρ) : ∃ o, (a, o) ∈ ρ.zip os := by
  induction ρ generalizing os with
  | nil => cases h
  | cons b r ih =>
    cases os with
    | nil => cases hl
    | cons o os =>
      rcases List.mem_cons.mp h with rfl | h
      · exact ⟨o, .head _⟩
      · obtain ⟨o', h'⟩ := ih (Nat.succ.inj hl) h
        exact ⟨o', .tail _ h'⟩
theorem zip_get {ρ : List Addr} {os : List Obj} {i : Nat} {a : Addr} {o : Obj} (ha : ρ[i]? = some a) (ho : os[i]? = some o) : (a, o) ∈ ρ.zip os := by
  induction ρ generalizing os i with
  | nil => simp at ha
  | cons b r ih =>
    cases os with
    | nil => simp at ho
    | cons o' os =>
      cases i with
      | zero => simp at ha ho; subst ha ho; exact .head _
      | succ i => simp at ha ho; exact .tail _ (ih ha ho)
section
variable {Γ : FC} {st : St} {ρ : List Addr} {σ : List Int} {h g h' : Heap} {m : Str → Option Value} {os : List Obj}
theorem FSx.lt (F : FSx Γ st ρ σ h g m os) {a : Addr} (ha : a ∈ ρ) : a < h.objs.size := by
  obtain ⟨o, ho⟩ := zip_mem F.len ha
  exact Heap.lt_size (F.N _ (List.mem_append_left _ ho)).1
inductive ObjR (Γ : FC) (ρ : List Addr) (σ : List Int) (os : List Obj) (i : Nat) (so : SO) : Prop
  | mk (a : Addr) (o : Obj) (ha : ρ[i]? = some a) (ho : os[i]? = some o) (r : OR ρ σ so o) (hm : (a, o) ∈ ρ.zip os ++ Γ.extra)
inductive AtR (Γ : FC) (ρ : List Addr) (σ : List Int) (os : List Obj) (i : Nat) (a : Addr) (so : SO) : Prop
  | mk (o : Obj) (ho : os[i]? = some o) (r : OR ρ σ so o) (hm : (a, o) ∈ ρ.zip os ++ Γ.extra)
theorem FSx.obj (F : FSx Γ st ρ σ h g m os) {i : Nat} {so : SO} (e : st.objs[i]? = some so) : ObjR Γ ρ σ os i so := by
  obtain ⟨o, ho, r⟩ := F.O.get e
  have : i < ρ.length := by rw [F.len]; exact (List.getElem?_eq_some_iff.mp ho).1
  exact ⟨ρ[i], o, List.getElem?_eq_getElem this, ho, r, List.mem_append_left _ (zip_get (List.getElem?_eq_getElem this) ho)⟩
theorem FSx.at (F : FSx Γ st ρ σ h g m os) {i : Nat} {a : Addr} {so : SO} (ha : ρ[i]? = some a) (e : st.objs[i]? = some so) : AtR Γ ρ σ os i a so := by
  obtain ⟨a', o, h1, h2, h3, h4⟩ := F.obj e
  rw [ha] at h1; cases h1
  exact ⟨o, h2, h3, h4⟩
/-- a new object, wherever it lies -/
theorem FSx.fresh0 (F : FSx Γ st ρ σ h g m os) {D : Addr} {o : Obj} {so : SO} {m' : Str → Option Value} {loc : List (Str × SV)} (F' : Fr g Γ.L h' m') (N' : News g Γ.L h' ((D, o) :: (ρ.zip os ++ Γ.extra))) (off : ∀ p ∈ ρ.zip os ++ Γ.extra, p.1 ≠ D) (ho : OR (ρ ++ [D]) σ so o) (hM : ∀ x v, loc.lookup x = some v → ∃ v', m' x = some v' ∧ VR (ρ ++ [D]) σ v v') (hp : ∀ m₀, Γ.pin = some m₀ → m' = m₀) :
    FSx Γ ⟨loc, st.objs ++ [so], st.bnd, st.turn, st.frz, st.sums⟩ (ρ ++ [D]) σ h' g m' (os ++ [o]) where
  T := F.T
  T0 := F.T0
  B := F.B
  D := F.D
  F := F'
  N := fun p hp => N' p (by
    rw [List.zip_append F.len, List.append_assoc] at hp
    rcases List.mem_append.mp hp with hp | hp
    · exact .tail _ (List.mem_append_left _ hp)
    · exact (List.mem_cons.mp hp).elim (fun e => by rw [e]; exact .head _) fun hp => .tail _ (List.mem_append_right _ hp))
  O := (F.O.mono fun _ _ y => y.mono (List.prefix_append _ _) (List.prefix_refl _)).snoc ho
  len := by rw [List.length_append, List.length_append, F.len]; rfl
  M := hM
  asc := List.nodup_append.mpr ⟨F.asc, List.nodup_cons.mpr ⟨fun h => (nomatch h), List.nodup_nil⟩, fun a ha b hb e => by
    rw [List.mem_singleton.mp hb] at e
    obtain ⟨o, ho⟩ := zip_mem F.len ha
    exact off _ (List.mem_append_left _ ho) e⟩
  ap := fun q hq hm => (List.mem_append.mp hm).elim (F.ap q hq) fun hm => off q (List.mem_append_right _ hq) (List.mem_singleton.mp hm)
  bd := F.bd
  sm := F.sm
  Mp := hp
  Z := fun q hq => ⟨pre_get (List.prefix_append _ _) (F.Z q hq).1, (F.Z q hq).2⟩
theorem FSx.fresh (F : FSx Γ st ρ σ h g m os) {D : Addr} {o : Obj} {so : SO} (F' : Fr g Γ.L h' m) (N' : News g Γ.L h' ((D, o) :: (ρ.zip os ++ Γ.extra))) (off : ∀ p ∈ ρ.zip os ++ Γ.extra, p.1 ≠ D) (ho : OR (ρ ++ [D]) σ so o) :
    FSx Γ (st.addO so) (ρ ++ [D]) σ h' g m (os ++ [o]) :=
  F.fresh0 F' N' off ho (fun x v e => by obtain ⟨v', a, b⟩ := F.M x v e; exact ⟨v', a, b.mono (List.prefix_append _ _) (List.prefix_refl _)⟩) F.Mp
theorem FSx.In (XB : (hd.heap_1 w.params).In base) (F : FSx Γ st ρ σ h g m os) : (hd.heap_1 w.params).In g := XB.keeps F.B.stays
theorem FSx.Tp (TB : Top p loose mean mg mb base) (F : FSx Γ st ρ σ h g m os) : Top p loose mean mg mb g := TB.keeps F.B.stays
theorem FSx.K (XB : (hd.heap_1 w.params).In base) (F : FSx Γ st ρ σ h g m os) {a : Addr} {o : Obj} (e : kget w.params a = some o) : h.get? a = some o := (F.In XB).keeps F.F.keep _ _ e
theorem FSx.moved (F : FSx Γ st ρ σ h g m os) (F' : Fr g Γ.L h' m) (N' : News g Γ.L h' (ρ.zip os ++ Γ.extra)) : FSx Γ st ρ σ h' g m os := { F with F := F', N := N' }
theorem FSx.letter (F : FSx Γ st ρ σ h g m os) {b : LB} {r : Int} (hb : BR b r) : FSx Γ (st.addB b) ρ (σ ++ [r]) h g m os where
  sm := fun q hq => (F.sm q hq).mono (List.prefix_append _ _)
  T := F.T
  T0 := F.T0
  B := F.B
  D := F.D
  F := F.F
  N := F.N
  O := F.O.mono fun _ _ y => y.mono (List.prefix_refl _) (List.prefix_append _ _)
  len := F.len
  M := fun x v e => by obtain ⟨v', a, b⟩ := F.M x v e; exact ⟨v', a, b.mono (List.prefix_refl _) (List.prefix_append _ _)⟩
  asc := F.asc
  ap := F.ap
  bd := F.bd.snoc hb
  Mp := F.Mp
  Z := F.Z
theorem F2.setL {α β : Type} {R : α → β → Prop} {l : List α} {m : List β} (h : F2 R l m) : ∀ {i : Nat} {a : α} {b : β}, m[i]? = some b → R a b → F2 R (l.set i a) m := by
  induction h with
  | nil => intro i a b _ _; exact .nil
  | cons x t ih => intro i a b e r; cases i with
    | zero => simp at e; subst e; exact .cons r t
    | succ i => rw [List.getElem?_cons_succ] at e; exact .cons x (ih e r)
/-- more is known of a letter -/
theorem FSx.refine (F : FSx Γ st ρ σ h g m os) {i : Nat} {b : LB} {k : Int} (hk : σ[i]? = some k) (hb : BR b k) : FSx Γ (setB st i b) ρ σ h g m os := ⟨F.T, F.T0, F.B, F.D, F.F, F.N, F.O, F.len, F.M, F.asc, F.ap, F.bd.setL hk hb, F.sm, F.Mp, F.Z⟩
theorem FSx.blen (F : FSx Γ st ρ σ h g m os) : st.bnd.length = σ.length := F.bd.length
theorem FS.toBd (F : FS Γ st ρ σ h) : F2 BR st.bnd σ := let ⟨_, _, _, F⟩ := F; F.bd
theorem getLast_at {α : Type} {l : List α} {a : α} {n : Nat} (h : n = l.length) : (l ++ [a])[n]? = some a := by subst h; simp
theorem Post.sub {α : Type} {rel : Rel α} {s : Shared} {l outs : List (RR × St)} {Q : α → Shared → Prop} {X : Value → Shared → Prop} (P : Post rel Γ ρ σ s outs Q X) (h : ∀ o ∈ l, o ∈ outs) : Post rel Γ ρ σ s l Q X := fun o ho => P o (h o ho)
end
section
variable {Γ : FC} {st : St} {ρ : List Addr} {σ : List Int} {s : Shared} {h' g : Heap} {m : Str → Option Value} {os : List Obj} {Q : Value → Shared → Prop} {X : Value → Shared → Prop} {outs : List (RR × St)}
theorem post_fresh {so : SO} {o : Obj} {D : Addr} (e : newO so st = some outs) (P : Post relE Γ ρ σ s outs Q X) (F : FSx Γ st ρ σ s.heap g m os) (F' : Fr g Γ.L h' m) (N' : News g Γ.L h' ((D, o) :: (ρ.zip os ++ Γ.extra))) (lo : ∀ p ∈ ρ.zip os ++ Γ.extra, p.1 < D) (ho : OR (ρ ++ [D]) σ so o) (tk : Nat) : Q (.ref D) (sat s h' tk) := by
  cases e
  exact post_one P (ρ' := ρ ++ [D]) (List.prefix_append _ _) (List.prefix_refl _) ⟨D, getLast_at (F.O.length.trans F.len.symm), rfl⟩ ⟨g, m, _, F.fresh F' N' (fun p hp => Nat.ne_of_lt (lo p hp)) ho⟩
/-- the outcome is a new object -/
theorem post_new {so : SO} {o : Obj} (e : newO so st = some outs) (P : Post relE Γ ρ σ s outs Q X) (F : FS Γ st ρ σ s.heap) (hf : o.isFreed = false) (ho : OR (ρ ++ [s.heap.objs.size]) σ so o) (tk : Nat) :
    Q (.ref s.heap.objs.size) (sat s (s.heap.push o) tk) := by
  obtain ⟨g, m, os, F⟩ := F
  exact post_fresh e P F (F.F.push o) (F.N.push F.F o hf) (fun q hq => Heap.lt_size (F.N q hq).1) ho tk
theorem newTup {M : Model} {A : Around} {vs : List Value} (k : Q (.ref s.heap.objs.size) { s with heap := s.heap.push { cls := .type "tuple", data := .seq vs.toArray } }) (hz : vs.length ≤ sizeLine) : wpAny M A (newTuple vs) Q X s :=
  wpAny_newObj_type k (by show vs.toArray.size ≤ sizeLine; rw [List.size_toArray]; exact hz)
theorem newLst {M : Model} {A : Around} {vs : List Value} (k : Q (.ref s.heap.objs.size) { s with heap := s.heap.push { cls := .type "list", data := .seq vs.toArray } }) (hz : vs.length ≤ sizeLine) : wpAny M A (PySem.newList vs) Q X s :=
  wpAny_newObj_type k (by show vs.toArray.size ≤ sizeLine; rw [List.size_toArray]; exact hz)
end
section
variable {β : Type} {q : β} {ρ : List Addr} {σ : List Int} {v : SV} {x : Value} {motive : Value → Prop}
@[elab_as_elim] theorem VR.onNone {f : Option β} (hv : VR ρ σ v x) (h : onNone v f = some q) (k : f = some q → motive .none) : motive x := by
  cases v with
  | none => cases hv; exact k h
  | _ => exact dead h
@[elab_as_elim] theorem VR.onBool {f : Bool → Option β} (hv : VR ρ σ v x) (h : onBool v f = some q) (k : ∀ b, f b = some q → motive (.bool b)) : motive x := by
  cases v with
  | bool b => cases hv; exact k b h
  | _ => exact dead h
@[elab_as_elim] theorem VR.onInt {f : SI → Option β} (hv : VR ρ σ v x) (h : onInt v f = some q) (k : ∀ n y t, f n = some q → SIR σ n y → motive (.int y t)) : motive x := by
  cases v with
  | int n => obtain ⟨y, t, rfl, hy⟩ := hv; exact k n y t h hy
  | _ => exact dead h
@[elab_as_elim] theorem VR.onStr {f : Str → Option β} (hv : VR ρ σ v x) (h : onStr v f = some q) (k : ∀ b t, f b = some q → motive (.str b t)) : motive x := by
  cases v with
  | str b => obtain ⟨t, rfl⟩ := hv; exact k b t h
  | _ => exact dead h
@[elab_as_elim] theorem VR.onBytes {f : List SI → Option β} (hv : VR ρ σ v x) (h : onBytes v f = some q) (k : ∀ l b t, f l = some q → F2 (SIR σ) l (KBw.bInts b) → motive (.bytes b t)) : motive x := by
  cases v with
  | bytes l => obtain ⟨b, t, rfl, hb⟩ := hv; exact k l b t h hb
  | _ => exact dead h
@[elab_as_elim] theorem VR.onOwn {f : Nat → Option β} (hv : VR ρ σ v x) (h : onOwn v f = some q) (k : ∀ i a, f i = some q → ρ[i]? = some a → motive (.ref a)) : motive x := by
  cases v with
  | own i => obtain ⟨a, ha, rfl⟩ := hv; exact k i a h ha
  | _ => exact dead h
@[elab_as_elim] theorem VR.onImm {f : Value → Option β} (hv : VR ρ σ v x) (h : onImm v f = some q) (k : f x = some q → v = .imm x → motive x) : motive x := by
  cases v with
  | imm u => cases hv; exact k h rfl
  | _ => exact dead h
noncomputable def onRef (v : SV) (f : Addr → Option β) : Option β := onImm v fun u => vRef u f
@[elab_as_elim] theorem VR.onRef {f : Addr → Option β} (hv : VR ρ σ v x) (h : onRef v f = some q) (k : ∀ a, f a = some q → motive (.ref a)) : motive x :=
  hv.onImm h fun h _ => i_vRef (fun a h e => by subst e; exact k a h) h
/-- an own object -/
noncomputable def onObj (st : St) (v : SV) (f : Nat → SO → Option β) : Option β := onOwn v fun i => ob st.objs[i]? (f i)
noncomputable def onTup (st : St) (v : SV) (f : Nat → List SV → Option β) : Option β := onObj st v fun i o => oTup o (f i)
noncomputable def onList (st : St) (v : SV) (f : Nat → List SV → Option β) : Option β := onObj st v fun i o => oList o (f i)
/-- an own instance, with its dict -/
noncomputable def onInst (st : St) (v : SV) (f : Nat → Nat → Nat → List (Str × SV) → Option β) : Option β := onObj st v fun i o => oInst o fun C d => ob st.objs[d]? fun o2 => oDict o2 (f i C d)
section
variable {Γ : FC} {st : St} {h g : Heap} {m : Str → Option Value} {os : List Obj}
@[elab_as_elim] theorem FSx.onObj (F : FSx Γ st ρ σ h g m os) {f : Nat → SO → Option β} (hv : VR ρ σ v x) (e : onObj st v f = some q) (k : ∀ i so a o, f i so = some q → ρ[i]? = some a → st.objs[i]? = some so → os[i]? = some o → (a, o) ∈ ρ.zip os ++ Γ.extra → OR ρ σ so o → motive (.ref a)) : motive x :=
  hv.onOwn e fun i a e ha => i_ob (fun so e hi => by obtain ⟨o, ho, r, hm⟩ := F.at ha hi; exact k i so a o e ha hi ho hm r) e
@[elab_as_elim] theorem FSx.onTup (F : FSx Γ st ρ σ h g m os) {f : Nat → List SV → Option β} (hv : VR ρ σ v x) (e : onTup st v f = some q) (k : ∀ i xs a vs, f i xs = some q → ρ[i]? = some a → (a, ({ cls := .type "tuple", data := .seq vs.toArray } : Obj)) ∈ ρ.zip os ++ Γ.extra → F2 (VR ρ σ) xs vs → motive (.ref a)) : motive x :=
  F.onObj hv e fun i so a o e ha _ _ hm r => i_oTup (fun xs e z => by subst z; obtain ⟨vs, rfl, hvs⟩ := r; exact k i xs a vs e ha hm hvs) e
@[elab_as_elim] theorem FSx.onList (F : FSx Γ st ρ σ h g m os) {f : Nat → List SV → Option β} (hv : VR ρ σ v x) (e : onList st v f = some q) (k : ∀ i xs a vs n, f i xs = some q → ρ[i]? = some a → os[i]? = some ({ cls := .type "list", data := .seq vs.toArray n } : Obj) → (a, ({ cls := .type "list", data := .seq vs.toArray n } : Obj)) ∈ ρ.zip os ++ Γ.extra → F2 (VR ρ σ) xs vs → motive (.ref a)) : motive x :=
  F.onObj hv e fun i so a o e ha _ ho hm r => i_oList (fun xs e z => by subst z; obtain ⟨vs, n, rfl, hvs⟩ := r; exact k i xs a vs n e ha ho hm hvs) e
@[elab_as_elim] theorem FSx.onInst (F : FSx Γ st ρ σ h g m os) {f : Nat → Nat → Nat → List (Str × SV) → Option β} (hv : VR ρ σ v x) (e : onInst st v f = some q) (k : ∀ i C d es a da ds n, f i C d es = some q → ρ[d]? = some da → os[d]? = some (dictOf ds n) → (a, instObj C da) ∈ ρ.zip os ++ Γ.extra → (da, dictOf ds n) ∈ ρ.zip os ++ Γ.extra → F2 (ER ρ σ) es ds → motive (.ref a)) : motive x :=
  F.onObj hv e fun i so a o e ha _ ho hm r => i_oInst (fun C d e z => i_ob (fun so2 e hd2 => i_oDict (fun es e z2 => by
    subst z z2
    obtain ⟨da, hda, rfl⟩ := r
    obtain ⟨o2, ho2, ⟨ds, n, rfl, hes⟩, hm2⟩ := F.at hda hd2
    exact k i C d es a da ds n e hda ho2 hm hm2 hes) e) e) e
end
end
theorem lits {σ : List Int} {l : List Int} : F2 (SIR σ) (l.map .lit) l := by
  induction l with
  | nil => exact .nil
  | cons a l ih => exact .cons rfl ih
theorem ofK_ok {ρ : List Addr} {σ : List Int} {v : Value} {sv : SV} (e : ofK v = some sv) : VR ρ σ sv v := by
  cases v <;> first | (exact dead e) | (have e := Option.some.inj e; subst e; first | rfl | exact ⟨_, _, rfl, rfl⟩ | exact ⟨_, rfl⟩ | exact ⟨_, _, rfl, lits⟩)
theorem ofKs_ok {ρ : List Addr} {σ : List Int} {vs : List Value} : ∀ {l : List SV}, ofKs vs = some l → F2 (VR ρ σ) l vs := by
  induction vs with
  | nil => intro l e; cases e; exact .nil
  | cons v r ih => exact fun {l} e => i_ob (fun x e hx => i_ob (fun l' e hl => by cases e; exact .cons (ofK_ok hx) (ih hl)) e) e
section
variable (P : Params)
noncomputable def nameL (cv : Option (Str × SV)) (st : St) (x : Str) : Option SV := Option.rec (st.loc.lookup x) (fun c => gd (decide (c.1 = x)) (some c.2)) cv
noncomputable def nameC (sc : SC) (st : St) (x : Str) : Option SV := ob (sc.cells.lookup x) fun i => ob st.objs[i]? fun o => oCell o fun c => c
noncomputable def ofB (v : Value) : Option SV := orE (vType v fun n => some (.imm (.type n))) (vBlt v fun n => some (.imm (.builtin n)))
noncomputable def nameB (x : Str) : Option SV := ob (bootBuiltins x) fun v => gd (!decide (x = "__name__")) (ofB v)
noncomputable def nameG (x : Str) : Option SV := ob (nsIn (hd.heap_1 P) mainGlobals x) fun r => Option.rec (nameB x) ofK r
/-- a name's value -/
noncomputable def nameV (sc : SC) (st : St) (x : Str) : Option SV := ob (sc.cs.names.lookup x) fun k => match k with
  | .local => nameL sc.cv st x
  | .cell => nameC sc st x
  | .free => gd (sc.cv.isNone && !(decide (x = Str.ofString "__classdict__"))) (nameC sc st x)
  | .globalImplicit => nameG P x
  | _ => none
end
section
variable {Γ : FC} {st : St} {ρ : List Addr} {σ : List Int} {s : Shared} {Q : Value → Shared → Prop} {X : Value → Shared → Prop} {outs : List (RR × St)} {sc : SC} {env : Env} {h g : Heap} {m : Str → Option Value} {os : List Obj}
theorem ofB_ok {v : Value} {u : SV} (e : ofB v = some u) : VR ρ σ u v := i_or (fun e => i_vType (fun _ e z => by cases e; exact z) e) (fun e => i_vBlt (fun _ e z => by cases e; exact z) e) e
inductive CellAt (Γ : FC) (ρ : List Addr) (σ : List Int) (os : List Obj) (cl : List (Str × Addr)) (x : Str) (v : SV) : Prop
  | mk (a : Addr) (o : Obj) (v' : Value) (h1 : cl.lookup x = some a) (h2 : (a, o) ∈ ρ.zip os ++ Γ.extra) (h3 : o.data = .cell (some v')) (h4 : VR ρ σ v v')
theorem nameC_ok (F : FSx Γ st ρ σ h g m os) {cl : List (Str × Addr)} {x : Str} {v : SV} (hc : CellsR ρ sc.cells cl) (e : nameC sc st x = some v) : CellAt Γ ρ σ os cl x v :=
  i_ob (fun i e hi => i_ob (fun so e hs => i_oCell (fun c e z => by
    subst z e
    obtain ⟨a, ha, hcl⟩ := hc _ _ hi
    obtain ⟨o, ho, ⟨v', hd2, hv⟩, hm⟩ := F.at ha hs
    exact ⟨a, o, v', hcl, hm, hd2, hv⟩) e) e) e
theorem name_ok (XB : (hd.heap_1 w.params).In base) (TB : Top p loose mean mg mb base) {x : Str} {pos : Pos} {v : SV} (e : nameV w.params sc st x = some v) (hd : decide (x = Str.ofString "__debug__") = false) (W : WF Γ sc.lvl) (V : EnvR Γ ρ σ sc env) (F : FS Γ st ρ σ s.heap)
    (k : ∀ a, VR ρ σ v a → Q a s) : wpAny (model prg w) Γ.A (eval (.Name x pos) env) Q X s := by
  obtain ⟨g, m, os, F⟩ := F
  have hd' : (x == ("__debug__" : Str)) = false := beq_eq_false_iff_ne.mpr (of_decide_eq_false hd)
  refine i_ob (fun kd e hl => ?_) e
  cases V with
  | fn hcs hcv hcell hcode hcn =>
    have hl : Γ.cs.names.lookup x = some kd := hcs ▸ hl
    rw [hcv] at e
    cases kd <;> first | exact dead e | skip
    case «local» => obtain ⟨v', hm, hv⟩ := F.M x v e; exact nameX_L F.F hm (k _ hv) W.kind hl hd'
    case cell => obtain ⟨a, o, v', h1, h2, h3, h4⟩ := nameC_ok F hcell e; exact nameX_C F.N h1 h2 h3 (k _ h4) W.kind hl hd'
    case free =>
      refine i_gd (fun e hn => ?_) e
      rw [Bool.and_eq_true, Bool.not_eq_true'] at hn
      obtain ⟨a, o, v', h1, h2, h3, h4⟩ := nameC_ok F hcell e
      exact nameX_F F.N h1 h2 h3 (k _ h4) W.kind hl hd' (beq_eq_false_iff_ne.mpr (of_decide_eq_false hn.2))
    case globalImplicit =>
      refine i_ob (fun r e hu => ?_) e
      cases r with
      | some u => exact nameX_K F.F (F.In XB) (topRead_of (F.Tp TB)) hu (k _ (ofK_ok e)) W.kind hl hd'
      | none =>
        refine i_ob (fun u e hb => i_gd (fun e hn => ?_) e) e
        exact nameX_B F.F (F.In XB) (topRead_of (F.Tp TB)) hu hb (of_decide_eq_false (Bool.not_eq_true' _ ▸ hn)) (k _ (ofB_ok e)) W.kind hl hd'
  | @comp scope cl C oC m₂ y u u' hcs hk hcv hcell hm hC hy hu hlp =>
    have hkk : (compEnvC scope cl C Γ.env).scope.kind = .function := hk
    have hl : (relabel scope Γ.env).names.lookup x = some kd := hcs ▸ hl
    rw [hcv] at e
    cases kd <;> first | exact dead e | skip
    case «local» =>
      refine i_gd (fun e hyx => ?_) e
      cases e
      have := of_decide_eq_true hyx
      subst this
      exact LCgL.ld_own F.N (List.mem_append_right _ hm) hC hy (k _ hu) hkk hl hd'
    case cell => obtain ⟨a, o, v', h1, h2, h3, h4⟩ := nameC_ok F hcell e; exact kcf_cell F.N h1 h2 h3 (k _ h4) hkk hl hd'
    case globalImplicit =>
      refine i_ob (fun r e hu => ?_) e
      cases r with
      | some u => exact LCgL.ld_global F.F (F.In XB) (F.Tp TB) hu (k _ (ofK_ok e)) rfl hkk hl hd'
      | none =>
        refine i_ob (fun u e hb => i_gd (fun e hn => ?_) e) e
        exact LCgL.ld_built F.F (F.In XB) (F.Tp TB) hu hb (of_decide_eq_false (Bool.not_eq_true' _ ▸ hn)) (k _ (ofB_ok e)) rfl rfl hkk hl hd'
end

end
-- W4
section
noncomputable def loI (a b : Int) : Int := cnd (decide (b < a)) b a
noncomputable def hiI (a b : Int) : Int := cnd (decide (a < b)) b a
theorem cnd_cases {α : Type} {c : Bool} {x y : α} {P : α → Prop} (h1 : c = true → P x) (h2 : c = false → P y) : P (cnd c x y) := by
  cases c with
  | true => exact h1 rfl
  | false => exact h2 rfl
theorem loI_le {a b : Int} : loI a b ≤ a ∧ loI a b ≤ b := cnd_cases (P := fun z => z ≤ a ∧ z ≤ b) (fun h => ⟨Int.le_of_lt (of_decide_eq_true h), Int.le_refl _⟩) fun h => ⟨Int.le_refl _, Int.not_lt.mp (of_decide_eq_false h)⟩
theorem hiI_le {a b : Int} : a ≤ hiI a b ∧ b ≤ hiI a b := cnd_cases (P := fun z => a ≤ z ∧ b ≤ z) (fun h => ⟨Int.le_of_lt (of_decide_eq_true h), Int.le_refl _⟩) fun h => ⟨Int.le_refl _, Int.not_lt.mp (of_decide_eq_false h)⟩
theorem loL_ok {l : List Int} : ∀ {a : Int}, l.foldl loI a ≤ a ∧ ∀ x ∈ l, l.foldl loI a ≤ x := by
  induction l with
  | nil => exact ⟨Int.le_refl _, fun _ h => nomatch h⟩
  | cons y l ih => exact fun {a} => ⟨Int.le_trans ih.1 loI_le.1, fun x hx => (List.mem_cons.mp hx).elim (fun e => e ▸ Int.le_trans ih.1 loI_le.2) (ih.2 x)⟩
theorem hiL_ok {l : List Int} : ∀ {a : Int}, a ≤ l.foldl hiI a ∧ ∀ x ∈ l, x ≤ l.foldl hiI a := by
  induction l with
  | nil => exact ⟨Int.le_refl _, fun _ h => nomatch h⟩
  | cons y l ih => exact fun {a} => ⟨Int.le_trans hiI_le.1 ih.1, fun x hx => (List.mem_cons.mp hx).elim (fun e => e ▸ Int.le_trans hiI_le.2 ih.1) (ih.2 x)⟩
/-- the worths that the i-th letter may have -/
noncomputable def domOf (st : St) (i : Nat) : Option (List Nat) := ob st.bnd[i]? fun b => b.2.2
noncomputable def valsOf (vs : List Int) (D : List Nat) : Option (List Int) := List.rec (some []) (fun d _ ih => ob vs[d]? fun v => ob ih fun l => some (v :: l)) D
theorem valsOf_ok {vs : List Int} {D : List Nat} : ∀ {l : List Int}, valsOf vs D = some l → ∀ d ∈ D, ∃ v ∈ l, vs[d]? = some v := by
  induction D with
  | nil => intro _ _ _ h; cases h
  | cons e r ih =>
    intro l h d hd
    refine i_ob (fun v h hv => i_ob (fun l' h hl => ?_) h) h
    cases h
    rcases List.mem_cons.mp hd with rfl | hd
    · exact ⟨v, .head _, hv⟩
    · obtain ⟨u, h1, h2⟩ := ih hl d hd
      exact ⟨u, .tail _ h1, h2⟩
noncomputable def mapO (f : Int → Int) (a : Option Int) : Option Int := ob a fun x => some (f x)
noncomputable def map2 (f : Int → Int → Int) (a b : Option Int) : Option Int := ob a fun x => ob b fun y => some (f x y)
theorem mapO_some {f : Int → Int} {a : Option Int} {r : Int} (h : mapO f a = some r) : ∃ x, a = some x ∧ r = f x := i_ob (fun x h e => ⟨x, e, (Option.some.inj h).symm⟩) h
theorem map2_some {f : Int → Int → Int} {a b : Option Int} {r : Int} (h : map2 f a b = some r) : ∃ x y, a = some x ∧ b = some y ∧ r = f x y := i_ob (fun x h e => i_ob (fun y h e' => ⟨x, y, e, e', (Option.some.inj h).symm⟩) h) h
/-- bounds of an int -/
noncomputable def siB (st : St) (a : SI) : Option (Option Int × Option Int) := SI.rec (fun n => some (some n, some n)) (fun i => ob st.bnd[i]? fun b => some (b.1, b.2.1)) (fun i vs => ob (domOf st i) fun D => ob (valsOf vs D) fun l => lc l fun v l => some (some (l.foldl loI v), some (l.foldl hiI v)))
  (fun q o => ob st.bnd[q]? fun b => some (mapO (· + o) b.1, mapO (· + o) b.2.1)) (fun q o r => ob st.bnd[q]? fun b => ob st.bnd[r]? fun c => some (map2 (fun x y => 256 * (x + o) + y) b.1 c.1, map2 (fun x y => 256 * (x + o) + y) b.2.1 c.2.1)) a
section
variable {st : St} {σ : List Int} {a b : SI} {x y : Int}
theorem bd_at (B : F2 BR st.bnd σ) {i : Nat} {b : LB} (e : st.bnd[i]? = some b) (h : σ[i]? = some x) : BR b x := by
  obtain ⟨k, hk, h1⟩ := B.get e
  exact Option.some.inj (hk.symm.trans h) ▸ h1
section
variable {β : Type} {q : β} {G : Prop} {motive : Int → Prop}
theorem SIR.onLit {f : Int → Option β} (ha : SIR σ a x) (h : iLit a f = some q) (k : f x = some q → G) : G := by
  cases a with
  | lit n => cases ha; exact k h
  | _ => exact dead h
theorem SIR.onAt {f : Nat → Option β} (ha : SIR σ a x) (h : iAt a f = some q) (k : ∀ i, f i = some q → σ[i]? = some x → G) : G := by
  cases a with
  | «at» i => exact k i h ha
  | _ => exact dead h
theorem SIR.onTab {f : Nat → List Int → Option β} (ha : SIR σ a x) (h : iTab a f = some q) (k : ∀ i vs d, f i vs = some q → σ[i]? = some d → 0 ≤ d → vs[d.toNat]? = some x → G) : G := by
  cases a with
  | tab i vs => obtain ⟨d, h1, h2, h3⟩ := ha; exact k i vs d h h1 h2 h3
  | _ => exact dead h
@[elab_as_elim] theorem SIR.onOff {f : Nat → Int → Option β} (ha : SIR σ a x) (h : iOff a f = some q) (k : ∀ i o u, f i o = some q → σ[i]? = some u → motive (u + o)) : motive x := by
  cases a with
  | off i o => obtain ⟨u, h1, rfl⟩ := ha; exact k i o u h h1
  | _ => exact dead h
@[elab_as_elim] theorem SIR.onLin {f : Nat → Int → Nat → Option β} (ha : SIR σ a x) (h : iLin a f = some q) (k : ∀ i o j u v, f i o j = some q → σ[i]? = some u → σ[j]? = some v → motive (256 * (u + o) + v)) : motive x := by
  cases a with
  | lin i o j => obtain ⟨u, v, h1, h2, rfl⟩ := ha; exact k i o j u v h h1 h2
  | _ => exact dead h
end
theorem tab_dom (B : F2 BR st.bnd σ) {i : Nat} {vs : List Int} {D : List Nat} (e : domOf st i = some D) (ha : SIR σ (.tab i vs) x) : ∃ d ∈ D, vs[d]? = some x := by
  refine i_ob (fun b e hb => ?_) e
  obtain ⟨k, hk, h1, h2⟩ := ha
  obtain ⟨d, hd, rfl⟩ := (bd_at B hb hk).2 D e
  exact ⟨d, hd, h2⟩
theorem siB_ok (B : F2 BR st.bnd σ) {q : Option Int × Option Int} (e : siB st a = some q) (ha : SIR σ a x) : Bd q x := by
  cases a with
  | lit n => cases e; cases ha; exact ⟨fun u h => by cases h; exact Int.le_refl _, fun u h => by cases h; exact Int.le_refl _⟩
  | «at» i => exact i_ob (fun b e hb => by cases e; exact (bd_at B hb ha).1) e
  | tab i vs =>
    refine i_ob (fun D e hD => i_ob (fun l e hl => i_lc (fun v l e z => ?_) e) e) e
    subst z
    cases e
    obtain ⟨d, hd, hx⟩ := tab_dom B hD ha
    obtain ⟨u, hu, hv⟩ := valsOf_ok hl d hd
    have hu := (Option.some.inj (hx.symm.trans hv)) ▸ hu
    exact ⟨fun u h => by cases h; exact (List.mem_cons.mp hu).elim (fun e => e ▸ loL_ok.1) (loL_ok.2 _), fun u h => by cases h; exact (List.mem_cons.mp hu).elim (fun e => e ▸ hiL_ok.1) (hiL_ok.2 _)⟩
  | off q o =>
    refine i_ob (fun b e hb => ?_) e
    cases e
    obtain ⟨k, hk, rfl⟩ := ha
    have h := (bd_at B hb hk).1
    exact ⟨fun u e => by obtain ⟨z, hz, rfl⟩ := mapO_some e; exact Int.add_le_add_right (h.1 z hz) o, fun u e => by obtain ⟨z, hz, rfl⟩ := mapO_some e; exact Int.add_le_add_right (h.2 z hz) o⟩
  | lin q o r =>
    refine i_ob (fun b e hb => i_ob (fun c e hc => ?_) e) e
    cases e
    obtain ⟨k, l, hk, hl, rfl⟩ := ha
    have h := (bd_at B hb hk).1
    have h' := (bd_at B hc hl).1
    refine ⟨fun u e => ?_, fun u e => ?_⟩
    · obtain ⟨z, z', hz, hz', rfl⟩ := map2_some e
      have := h.1 z hz
      have := h'.1 z' hz'
      omega
    · obtain ⟨z, z', hz, hz', rfl⟩ := map2_some e
      have := h.2 z hz
      have := h'.2 z' hz'
      omega
noncomputable def litB (p : Option Int × Option Int) : Option Int := ob p.1 fun a => ob p.2 fun b => gd (decide (a = b)) (some a)
/-- an int that can be one alone -/
noncomputable def asLit (st : St) (n : SI) : Option Int := orE (iLit n some) (ob (siB st n) litB)
theorem asLit_ok (B : F2 BR st.bnd σ) {n : Int} (e : asLit st a = some n) (ha : SIR σ a x) : x = n :=
  i_or (fun e => i_iLit (fun k e z => by subst z; exact (show x = k from ha).trans (Option.some.inj e)) e) (fun e => i_ob (fun p e hp => i_ob (fun l e h1 => i_ob (fun u e h2 => i_gd (fun e q => by
    have h := siB_ok B hp ha
    have h3 := h.1 _ h1
    have h4 := h.2 _ h2
    cases e
    exact Int.le_antisymm (of_decide_eq_true q ▸ h4) h3) e) e) e) e) e
/-- an int within bounds -/
noncomputable def inS (st : St) (a : SI) (l h : Int) : Option Unit := ob (siB st a) fun p => ob p.1 fun x => ob p.2 fun y => gd (decide (l ≤ x) && decide (y ≤ h)) (some ())
theorem inS_ok (B : F2 BR st.bnd σ) {l h : Int} {u : Unit} (e : inS st a l h = some u) (ha : SIR σ a x) : l ≤ x ∧ x ≤ h :=
  i_ob (fun p e hp => i_ob (fun lo e h1 => i_ob (fun hi e h2 => i_gd (fun _ q => by
    rw [Bool.and_eq_true] at q
    have h := siB_ok B hp ha
    exact ⟨Int.le_trans (of_decide_eq_true q.1) (h.1 _ h1), Int.le_trans (h.2 _ h2) (of_decide_eq_true q.2)⟩) e) e) e) e
noncomputable def sameO (a b : SI) : Option Unit := orE (iLit a fun n => iLit b fun k => gd (decide (n = k)) (some ())) (orE (iAt a fun i => iAt b fun j => gd (Nat.beq i j) (some ())) (orE (iTab a fun i vs => iTab b fun j us => gd (Nat.beq i j && decide (vs = us)) (some ())) (iOff a fun q o => iOff b fun r u => gd (Nat.beq q r && decide (o = u)) (some ()))))
theorem SIR.fn (ha : SIR σ a x) (hb : SIR σ a y) : x = y := by
  cases a with
  | lit n => exact (show x = n from ha).trans (show y = n from hb).symm
  | «at» i => exact Option.some.inj (ha.symm.trans hb)
  | tab i vs =>
    obtain ⟨d, a1, a2, a3⟩ := ha
    obtain ⟨d', b1, b2, b3⟩ := hb
    cases a1.symm.trans b1
    exact Option.some.inj (a3.symm.trans b3)
  | off q o =>
    obtain ⟨d, a1, rfl⟩ := ha
    obtain ⟨d', b1, rfl⟩ := hb
    cases a1.symm.trans b1
    rfl
  | lin q o r =>
    obtain ⟨d, c, a1, a2, rfl⟩ := ha
    obtain ⟨d', c', b1, b2, rfl⟩ := hb
    cases a1.symm.trans b1
    cases a2.symm.trans b2
    rfl
theorem sameO_eq {u : Unit} (e : sameO a b = some u) : a = b :=
  i_or (fun e => i_iLit (fun n e z => i_iLit (fun k e z' => i_gd (fun _ q => by subst z z'; rw [of_decide_eq_true q]) e) e) e) (fun e => i_or (fun e => i_iAt (fun n e z => i_iAt (fun k e z' => i_gd (fun _ q => by subst z z'; rw [Nat.eq_of_beq_eq_true q]) e) e) e) (fun e => i_or (fun e => i_iTab (fun n vs e z => i_iTab (fun k us e z' => i_gd (fun _ q => by
    rw [Bool.and_eq_true] at q
    subst z z'
    rw [Nat.eq_of_beq_eq_true q.1, of_decide_eq_true q.2]) e) e) e) (fun e => i_iOff (fun n vs e z => i_iOff (fun k us e z' => i_gd (fun _ q => by
    rw [Bool.and_eq_true] at q
    subst z z'
    rw [Nat.eq_of_beq_eq_true q.1, of_decide_eq_true q.2]) e) e) e) e) e) e
theorem sameO_ok {u : Unit} (e : sameO a b = some u) (ha : SIR σ a x) (hb : SIR σ b y) : x = y := ha.fn (sameO_eq e ▸ hb)
noncomputable def ltB (p q : Option Int × Option Int) : Option Bool := orE (ob p.2 fun h => ob q.1 fun l => gd (decide (h < l)) (some true)) (ob q.2 fun h => ob p.1 fun l => gd (decide (h ≤ l)) (some false))
theorem ltB_ok {p q : Option Int × Option Int} {c : Bool} (e : ltB p q = some c) (hp : Bd p x) (hq : Bd q y) : decide (x < y) = c :=
  i_or (fun e => i_ob (fun h e h1 => i_ob (fun l e h2 => i_gd (fun e z => by
    cases e
    exact decide_eq_true (Int.lt_of_le_of_lt (hp.2 _ h1) (Int.lt_of_lt_of_le (of_decide_eq_true z) (hq.1 _ h2)))) e) e) e) (fun e => i_ob (fun h e h1 => i_ob (fun l e h2 => i_gd (fun e z => by
    cases e
    exact decide_eq_false (Int.not_lt.mpr (Int.le_trans (hq.2 _ h1) (Int.le_trans (of_decide_eq_true z) (hp.1 _ h2))))) e) e) e) e
noncomputable def ltD (st : St) (a b : SI) : Option Bool := orE (ob (sameO a b) fun _ => some false) (ob (siB st a) fun p => ob (siB st b) fun q => ltB p q)
theorem ltD_ok (B : F2 BR st.bnd σ) (ha : SIR σ a x) (hb : SIR σ b y) {c : Bool} (e : ltD st a b = some c) : decide (x < y) = c :=
  i_or (fun e => i_ob (fun u e h => by cases e; rw [sameO_ok h ha hb]; exact decide_eq_false (Int.lt_irrefl _)) e) (fun e => i_ob (fun p e hp => i_ob (fun q e hq => ltB_ok e (siB_ok B hp ha) (siB_ok B hq hb)) e) e) e
noncomputable def eqB (p q : Option Int × Option Int) : Option Bool := orE (ob (ltB p q) fun c => gd c (some false)) (orE (ob (ltB q p) fun c => gd c (some false)) (ob (ltB p q) fun c => ob (ltB q p) fun d => gd (!c && !d) (some true)))
theorem eqB_ok {p q : Option Int × Option Int} {c : Bool} (e : eqB p q = some c) (hp : Bd p x) (hq : Bd q y) : decide (x = y) = c :=
  i_or (fun e => i_ob (fun c e h => i_gd (fun e z => by
    cases e; subst z
    exact decide_eq_false (Int.ne_of_lt (of_decide_eq_true (ltB_ok h hp hq)))) e) e) (fun e => i_or (fun e => i_ob (fun c e h => i_gd (fun e z => by
    cases e; subst z
    exact decide_eq_false (Int.ne_of_gt (of_decide_eq_true (ltB_ok h hq hp)))) e) e) (fun e => i_ob (fun c e h => i_ob (fun d e h' => i_gd (fun e z => by
    cases e
    rw [Bool.and_eq_true, Bool.not_eq_true', Bool.not_eq_true'] at z
    obtain ⟨rfl, rfl⟩ := z
    exact decide_eq_true (Int.le_antisymm (Int.not_lt.mp (of_decide_eq_false (ltB_ok h' hq hp))) (Int.not_lt.mp (of_decide_eq_false (ltB_ok h hp hq))))) e) e) e) e) e
noncomputable def eqD (st : St) (a b : SI) : Option Bool := orE (iLit a fun n => iLit b fun k => some (decide (n = k))) (orE (ob (sameO a b) fun _ => some true) (ob (siB st a) fun p => ob (siB st b) fun q => eqB p q))
theorem eqD_ok (B : F2 BR st.bnd σ) (ha : SIR σ a x) (hb : SIR σ b y) {c : Bool} (e : eqD st a b = some c) : decide (x = y) = c :=
  i_or (fun e => i_iLit (fun n e z => i_iLit (fun k e z' => by subst z z'; cases ha; cases hb; exact Option.some.inj e) e) e) (fun e => i_or (fun e => i_ob (fun u e h => by cases e; exact decide_eq_true (sameO_ok h ha hb)) e) (fun e => i_ob (fun p e hp => i_ob (fun q e hq => eqB_ok e (siB_ok B hp ha) (siB_ok B hq hb)) e) e) e) e
noncomputable def eqDs (st : St) (l : List SI) : List SI → Option Bool := List.rec (fun m => some m.isEmpty) (fun a _ ih m => List.rec (some false) (fun b m _ => ob (eqD st a b) fun c => cnd c (ih m) (some false)) m) l
theorem eqDs_ok (B : F2 BR st.bnd σ) {l : List SI} : ∀ {m : List SI} {xs ys : List Int}, F2 (SIR σ) l xs → F2 (SIR σ) m ys → ∀ {c : Bool}, eqDs st l m = some c → decide (xs = ys) = c := by
  induction l with
  | nil =>
    intro m xs ys hl hm c e
    cases hl
    cases hm with
    | nil => cases e; rfl
    | cons _ _ => cases e; rfl
  | cons a l ih =>
    intro m xs ys hl hm c e
    cases hl with
    | cons ra rl =>
      cases hm with
      | nil => cases e; rfl
      | cons rb rm =>
        refine i_ob (fun d e q => ?_) e
        have h1 := eqD_ok B ra rb q
        refine i_cnd (fun e z => ?_) (fun e z => ?_) e
        · have h1 := of_decide_eq_true (h1.trans z)
          subst h1
          rw [← ih rl rm e]
          exact decide_eq_decide.mpr ⟨fun h => (List.cons.inj h).2, fun h => h ▸ rfl⟩
        · cases e
          exact decide_eq_false fun h => of_decide_eq_false (h1.trans z) (List.cons.inj h).1
noncomputable def neg? (c : Option Bool) : Option Bool := ob c fun b => some (!b)
noncomputable def cmpI (st : St) (op : CmpOp) (a b : SI) : Option Bool := match op with
  | .Lt => ltD st a b
  | .Gt => ltD st b a
  | .LtE => neg? (ltD st b a)
  | .GtE => neg? (ltD st a b)
  | .Eq => eqD st a b
  | .NotEq => neg? (eqD st a b)
  | _ => none
/-- a comparison of ints -/
noncomputable def cmpL (op : CmpOp) (a b : Int) : Bool := match op with
  | .Lt => decide (a < b)
  | .Gt => decide (b < a)
  | .LtE => !decide (b < a)
  | .GtE => !decide (a < b)
  | .Eq => decide (a = b)
  | .NotEq => !decide (a = b)
  | _ => false
theorem neg_ok {c d : Bool} {f : Option Bool} (k : ∀ c, f = some c → d = c) (e : neg? f = some c) : (!d) = c := i_ob (fun b e h => by cases e; rw [k b h]) e
theorem cmpI_val (B : F2 BR st.bnd σ) {op : CmpOp} {c : Bool} (e : cmpI st op a b = some c) (ha : SIR σ a x) (hb : SIR σ b y) : cmpL op x y = c := by
  cases op <;> first | exact dead e | exact ltD_ok B ha hb e | exact ltD_ok B hb ha e | exact neg_ok (fun c e => ltD_ok B hb ha e) e | exact neg_ok (fun c e => ltD_ok B ha hb e) e | exact eqD_ok B ha hb e | exact neg_ok (fun c e => eqD_ok B ha hb e) e
end
noncomputable def isCmp (op : CmpOp) : Bool := match op with
  | .Lt => true
  | .Gt => true
  | .LtE => true
  | .GtE => true
  | .Eq => true
  | .NotEq => true
  | _ => false
noncomputable def bOut (b : Bool) (st : St) : RR × St := (.val (.bool b), st)
noncomputable def side (st : St) (i : Nat) (b : LB) (D : List Nat) (bs : List Bool) (c : Bool) : List (RR × St) := List.rec [] (fun _ _ _ => [bOut c (setB st i (b.1, b.2.1, some (D.filter fun d => bs[d]? == some c)))]) (D.filter fun d => bs[d]? == some c)
/-- a comparison splits the worths of a letter -/
noncomputable def forkT (st : St) (i : Nat) (bs : List Bool) : Outs := ob st.bnd[i]? fun b => ob b.2.2 fun D => gd (D.all fun d => (bs[d]?).isSome) (some (side st i b D bs true ++ side st i b D bs false))
noncomputable def minO (h : Option Int) (n : Int) : Option Int := some (Option.rec n (fun h => loI h n) h)
noncomputable def maxO (h : Option Int) (n : Int) : Option Int := some (Option.rec n (fun h => hiI h n) h)
/-- x < n, and not -/
noncomputable def cutLt (st : St) (i : Nat) (n : Int) (t f : Bool) : Outs := ob st.bnd[i]? fun b => some [bOut t (setB st i (b.1, minO b.2.1 (n - 1), b.2.2)), bOut f (setB st i (maxO b.1 n, b.2.1, b.2.2))]
noncomputable def cutEq (st : St) (i : Nat) (n : Int) (t f : Bool) : Outs := ob st.bnd[i]? fun b => some [bOut t (setB st i (some n, some n, b.2.2)), bOut f st]
noncomputable def forkI (st : St) (op : CmpOp) (i : Nat) (n : Int) : Outs := match op with
  | .Lt => cutLt st i n true false
  | .GtE => cutLt st i n false true
  | .LtE => cutLt st i (n + 1) true false
  | .Gt => cutLt st i (n + 1) false true
  | .Eq => cutEq st i n true false
  | .NotEq => cutEq st i n false true
  | _ => none
noncomputable def swapC (op : CmpOp) : CmpOp := match op with
  | .Lt => .Gt
  | .Gt => .Lt
  | .LtE => .GtE
  | .GtE => .LtE
  | op => op
noncomputable def zipB (op : CmpOp) (vs : List Int) : List Int → List Bool := List.rec (fun _ => []) (fun a _ ih m => List.rec [] (fun b m _ => cmpL op a b :: ih m) m) vs
noncomputable def cmpTT (st : St) (op : CmpOp) (a b : SI) : Outs := iTab a fun i vs => iTab b fun j us => gd (Nat.beq i j) (forkT st i (zipB op vs us))
noncomputable def cmpTL (st : St) (op : CmpOp) (a b : SI) : Outs := iTab a fun i vs => iLit b fun n => forkT st i (vs.map fun v => cmpL op v n)
noncomputable def cmpAL (st : St) (op : CmpOp) (a b : SI) : Outs := iAt a fun i => iLit b fun n => forkI st op i n
noncomputable def cmpF (st : St) (op : CmpOp) (a b : SI) : Outs := gd (isCmp op) (orE (ob (cmpI st op a b) fun c => okb c st) (orE (cmpTL st op a b) (orE (cmpTL st (swapC op) b a) (orE (cmpTT st op a b) (orE (cmpAL st op a b) (cmpAL st (swapC op) b a))))))
/-- a truth's outcome lies among the outcomes -/
inductive Forked (Γ : FC) (outs : List (RR × St)) (ρ : List Addr) (σ : List Int) (h : Heap) (c : Bool) : Prop
  | mk (st' : St) (hm : bOut c st' ∈ outs) (F : FS Γ st' ρ σ h)
section
variable {Γ : FC} {st : St} {ρ : List Addr} {σ : List Int} {s : Shared} {Q : Value → Shared → Prop} {X : Value → Shared → Prop} {outs : List (RR × St)} {h g : Heap} {m : Str → Option Value} {os : List Obj} {a b : SI} {x y : Int}
theorem Forked.post' {c : Bool} (K : Forked Γ outs ρ σ s.heap c) (P : Post relE Γ ρ σ s outs Q X) (tk : Nat) : Q (.bool c) { s with toks := tk } := by
  obtain ⟨st', hm, F⟩ := K
  exact (P _ hm ρ σ s.heap tk (List.prefix_refl _) (List.prefix_refl _)).1 (.bool c) rfl F
theorem Forked.post {c : Bool} (K : Forked Γ outs ρ σ s.heap c) (P : Post relE Γ ρ σ s outs Q X) : Q (.bool c) s := K.post' P s.toks
theorem okb_ok {c : Bool} (e : okb c st = some outs) (F : FS Γ st ρ σ h) : Forked Γ outs ρ σ h c := by
  cases e
  exact ⟨st, .head _, F⟩
theorem side_mem {i : Nat} {b : LB} {D : List Nat} {bs : List Bool} {c : Bool} {d : Nat} (hd : d ∈ D) (hb : bs[d]? = some c) : d ∈ (D.filter fun d => bs[d]? == some c) ∧ bOut c (setB st i (b.1, b.2.1, some (D.filter fun d => bs[d]? == some c))) ∈ side st i b D bs c := by
  have hm : d ∈ (D.filter fun d => bs[d]? == some c) := List.mem_filter.mpr ⟨hd, by rw [hb]; exact beq_self_eq_true _⟩
  refine ⟨hm, ?_⟩
  unfold side
  generalize bOut c _ = z
  cases q : (D.filter fun d => bs[d]? == some c) with
  | nil => rw [q] at hm; cases hm
  | cons _ _ => exact .head _
theorem forkT_any {i : Nat} {bs : List Bool} (e : forkT st i bs = some outs) (F : FS Γ st ρ σ h) : ∃ d : Nat, σ[i]? = some (d : Int) ∧ ∃ c, bs[d]? = some c ∧ Forked Γ outs ρ σ h c := by
  obtain ⟨g, m, os, F⟩ := F
  refine i_ob (fun b e hb => i_ob (fun D e hD => i_gd (fun e hall => ?_) e) e) e
  cases e
  obtain ⟨k, hk, q1, q2⟩ := F.bd.get hb
  obtain ⟨d, hd, rfl⟩ := q2 D hD
  obtain ⟨c, hc⟩ := Option.isSome_iff_exists.mp (List.all_eq_true.mp hall d hd)
  obtain ⟨h1, h2⟩ := side_mem (st := st) (i := i) (b := b) hd hc
  refine ⟨d, hk, c, hc, _, ?_, g, m, os, F.refine (b := (b.1, b.2.1, some (D.filter fun d => bs[d]? == some c))) hk ⟨q1, fun D e => by cases e; exact ⟨d, h1, rfl⟩⟩⟩
  cases c with
  | true => exact List.mem_append_left _ h2
  | false => exact List.mem_append_right _ h2
theorem forkT_ok {i : Nat} {bs : List Bool} (e : forkT st i bs = some outs) (F : FS Γ st ρ σ h) {d : Int} (h1 : σ[i]? = some d) {c : Bool} (hc : ∀ b, bs[d.toNat]? = some b → b = c) : Forked Γ outs ρ σ h c := by
  obtain ⟨k, hk, b, hb, K⟩ := forkT_any e F
  cases h1.symm.trans hk
  exact hc b hb ▸ K
theorem minO_ok {hi : Option Int} {n k : Int} (h : ∀ u, hi = some u → k ≤ u) (hn : k ≤ n) : ∀ u, minO hi n = some u → k ≤ u := fun u e => by
  cases e
  cases hi with
  | none => exact hn
  | some u => exact cnd_cases (P := fun z => k ≤ z) (fun _ => hn) fun _ => h u rfl
theorem maxO_ok {lo : Option Int} {n k : Int} (h : ∀ u, lo = some u → u ≤ k) (hn : n ≤ k) : ∀ u, maxO lo n = some u → u ≤ k := fun u e => by
  cases e
  cases lo with
  | none => exact hn
  | some u => exact cnd_cases (P := fun z => z ≤ k) (fun _ => hn) fun _ => h u rfl
theorem cutLt_ok {i : Nat} {n k : Int} {t f c : Bool} (e : cutLt st i n t f = some outs) (F : FS Γ st ρ σ h) (hk : σ[i]? = some k) (h1 : k < n → t = c) (h2 : n ≤ k → f = c) : Forked Γ outs ρ σ h c := by
  obtain ⟨g, m, os, F⟩ := F
  refine i_ob (fun b e hb => ?_) e
  cases e
  obtain ⟨⟨q1, q2⟩, q3⟩ := bd_at F.bd hb hk
  by_cases q : k < n
  · exact h1 q ▸ ⟨_, .head _, g, m, os, F.refine hk ⟨⟨q1, minO_ok q2 (Int.le_sub_one_of_lt q)⟩, q3⟩⟩
  · exact h2 (Int.not_lt.mp q) ▸ ⟨_, .tail _ (.head _), g, m, os, F.refine hk ⟨⟨maxO_ok q1 (Int.not_lt.mp q), q2⟩, q3⟩⟩
theorem cutEq_ok {i : Nat} {n k : Int} {t f c : Bool} (e : cutEq st i n t f = some outs) (F : FS Γ st ρ σ h) (hk : σ[i]? = some k) (h1 : k = n → t = c) (h2 : k ≠ n → f = c) : Forked Γ outs ρ σ h c := by
  obtain ⟨g, m, os, F⟩ := F
  refine i_ob (fun b e hb => ?_) e
  cases e
  by_cases q : k = n
  · exact h1 q ▸ ⟨_, .head _, g, m, os, F.refine hk ⟨⟨fun u e => by cases e; exact q ▸ Int.le_refl _, fun u e => by cases e; exact q ▸ Int.le_refl _⟩, (bd_at F.bd hb hk).2⟩⟩
  · exact h2 q ▸ ⟨_, .tail _ (.head _), g, m, os, F⟩
theorem forkI_ok {op : CmpOp} {i : Nat} {n k : Int} (e : forkI st op i n = some outs) (F : FS Γ st ρ σ h) (hk : σ[i]? = some k) : Forked Γ outs ρ σ h (cmpL op k n) := by
  have dt : ∀ {p : Prop} [Decidable p], p → true = decide p := fun h => (decide_eq_true h).symm
  have df : ∀ {p : Prop} [Decidable p], ¬ p → false = decide p := fun h => (decide_eq_false h).symm
  cases op <;> first | exact dead e | skip
  case Lt => exact cutLt_ok e F hk dt fun q => df (Int.not_lt.mpr q)
  case GtE => exact cutLt_ok e F hk (fun q => congrArg not (dt q)) fun q => congrArg not (df (Int.not_lt.mpr q))
  case LtE => exact cutLt_ok e F hk (fun q => congrArg not (df (Int.not_lt.mpr (Int.le_of_lt_add_one q)))) fun q => congrArg not (dt (Int.lt_of_add_one_le q))
  case Gt => exact cutLt_ok e F hk (fun q => df (Int.not_lt.mpr (Int.le_of_lt_add_one q))) fun q => dt (Int.lt_of_add_one_le q)
  case Eq => exact cutEq_ok e F hk dt df
  case NotEq => exact cutEq_ok e F hk (fun q => congrArg not (dt q)) fun q => congrArg not (df q)
theorem zipB_ok {op : CmpOp} {vs : List Int} : ∀ {us : List Int} {d : Nat} {b : Bool}, vs[d]? = some x → us[d]? = some y → (zipB op vs us)[d]? = some b → b = cmpL op x y := by
  induction vs with
  | nil => intro us d b h; cases h
  | cons v vs ih =>
    intro us d b h h' e
    cases us with
    | nil => cases h'
    | cons u us =>
      cases d with
      | zero => cases h; cases h'; exact (Option.some.inj e).symm
      | succ d => exact ih (d := d) h h' e
theorem swapC_ok {op : CmpOp} (e : isCmp op = true) : cmpL (swapC op) x y = cmpL op y x := by
  cases op <;> first | (exact (decide_eq_decide.mpr eq_comm : decide (x = y) = decide (y = x))) | exact congrArg not (decide_eq_decide.mpr eq_comm : decide (x = y) = decide (y = x)) | rfl | cases e
theorem cmpTL_ok {op : CmpOp} (e : cmpTL st op a b = some outs) (ha : SIR σ a x) (hb : SIR σ b y) (F : FS Γ st ρ σ h) : Forked Γ outs ρ σ h (cmpL op x y) :=
  ha.onTab e fun i vs d e h1 h2 h3 => hb.onLit e fun e => forkT_ok e F h1 fun b q => by
    rw [List.getElem?_map, h3] at q
    exact (Option.some.inj q).symm
theorem cmpAL_ok {op : CmpOp} (e : cmpAL st op a b = some outs) (ha : SIR σ a x) (hb : SIR σ b y) (F : FS Γ st ρ σ h) : Forked Γ outs ρ σ h (cmpL op x y) :=
  ha.onAt e fun i e h1 => hb.onLit e fun e => forkI_ok e F h1
theorem cmpTT_ok {op : CmpOp} (e : cmpTT st op a b = some outs) (ha : SIR σ a x) (hb : SIR σ b y) (F : FS Γ st ρ σ h) : Forked Γ outs ρ σ h (cmpL op x y) :=
  ha.onTab e fun i vs d e h1 h2 h3 => hb.onTab e fun j us d' e h1' h2' h3' => i_gd (fun e9 q => by
    cases Nat.eq_of_beq_eq_true q
    cases h1.symm.trans h1'
    exact forkT_ok e9 F h1 fun b q => zipB_ok h3 h3' q) e
theorem cmpF_cmp {op : CmpOp} (e : cmpF st op a b = some outs) : isCmp op = true := i_gd (fun _ h => h) e
theorem cmpF_val {op : CmpOp} (e : cmpF st op a b = some outs) (ha : SIR σ a x) (hb : SIR σ b y) (F : FS Γ st ρ σ h) : Forked Γ outs ρ σ h (cmpL op x y) :=
  i_gd (fun e q => i_or (fun e => i_ob (fun c e hc => cmpI_val F.toBd hc ha hb ▸ okb_ok e F) e) (fun e => i_or (fun e => cmpTL_ok e ha hb F) (fun e => i_or (fun e => swapC_ok q ▸ cmpTL_ok e hb ha F) (fun e => i_or (fun e => cmpTT_ok e ha hb F) (fun e => i_or (fun e => cmpAL_ok e ha hb F) (fun e => swapC_ok q ▸ cmpAL_ok e hb ha F) e) e) e) e) e) e
theorem cmpL_ok {A : Around} {op : CmpOp} {t u : Tok} (e : isCmp op = true) (k : Q (.bool (cmpL op x y)) s) : wpAny (model prg w) A (compareOp op (.int x t) (.int y u)) Q X s := by
  have dn : ∀ {x y : Int}, decide (x ≤ y) = !decide (y < x) := fun {x y} => by rw [← decide_not]; exact decide_eq_decide.mpr Int.not_lt.symm
  cases op <;> first | cases e | skip
  case Eq => (with_reducible refine eq_int ?_); exact k
  case NotEq => (with_reducible refine PyProof.Rows.ne_int ?_); exact k
  case Lt => (with_reducible refine lt_int ?_); exact k
  case LtE => (with_reducible refine le_int ?_); rw [dn]; exact k
  case Gt => (with_reducible refine gt_int ?_); exact k
  case GtE => (with_reducible refine ge_int ?_); rw [dn]; exact k
theorem cmpF_ok {A : Around} {op : CmpOp} {t u : Tok} (e : cmpF st op a b = some outs) (ha : SIR σ a x) (hb : SIR σ b y) (F : FS Γ st ρ σ s.heap) (P : Post relE Γ ρ σ s outs Q X) : wpAny (model prg w) A (compareOp op (.int x t) (.int y u)) Q X s :=
  cmpL_ok (cmpF_cmp e) ((cmpF_val e ha hb F).post P)
end

end
-- W5
section
noncomputable def litI (op : Operator) (a b : Int) : Option Int := match op with
  | .Add => some (a + b)
  | .Sub => some (a - b)
  | .Mult => gd (decide (-(2 ^ 64) < a) && decide (a < 2 ^ 64)) (some (a * b))
  | .Mod => gd (decide (0 < b)) (some (a % b))
  | .FloorDiv => gd (decide (0 < b) && decide (b < 1073741824)) (some (a / b))
  | .LShift => gd (decide (0 ≤ b ∧ b ≤ 1000000 ∧ -(2 ^ 64) < a ∧ a < 2 ^ 64)) (some (a * 2 ^ b.toNat))
  | .RShift => gd (decide (0 ≤ b)) (some (a / 2 ^ b.toNat))
  | .BitAnd => some (Builtin.bitAnd a b)
  | .BitOr => some (Builtin.bitOr a b)
  | .BitXor => some (Builtin.bitXor a b)
  | .Pow => gd (decide (0 ≤ b ∧ b ≤ 64 ∧ 0 ≤ a ∧ a < 256)) (some (a ^ b.toNat))
  | _ => none
/-- an operation of letters: its answer a new letter with bounds -/
noncomputable def symShr (p : Option Int × Option Int) (n : Int) : Option (Option Int × Option Int) := gd (decide (0 ≤ n)) (some (mapO (· / 2 ^ n.toNat) p.1, mapO (· / 2 ^ n.toNat) p.2))
noncomputable def symDiv (p : Option Int × Option Int) (n : Int) : Option (Option Int × Option Int) := gd (decide (0 < n) && decide (n < 1073741824)) (some (mapO (· / n) p.1, mapO (· / n) p.2))
noncomputable def symMod (n : Int) : Option (Option Int × Option Int) := gd (decide (0 < n)) (some (some 0, some (n - 1)))
noncomputable def symMul (p : Option Int × Option Int) : Option (Option Int × Option Int) := ob p.1 fun l => ob p.2 fun h => gd (decide (-(2 ^ 64) < l) && decide (h < 2 ^ 64)) (some (none, none))
noncomputable def symShl (p : Option Int × Option Int) (n : Int) : Option (Option Int × Option Int) := ob p.1 fun l => ob p.2 fun h => gd (decide (0 ≤ n ∧ n ≤ 1000000 ∧ 0 ≤ l ∧ h < 2 ^ 64)) (some (some (l * 2 ^ n.toNat), some (h * 2 ^ n.toNat)))
noncomputable def symAnd (p : Option Int × Option Int) (n : Int) : Option (Option Int × Option Int) := ob p.1 fun l => ob p.2 fun h => gd (decide (0 ≤ n) && decide (0 ≤ l)) (some (some 0, some (loI h n)))
noncomputable def symOr (p q : Option Int × Option Int) : Option (Option Int × Option Int) := ob p.1 fun l => ob p.2 fun h => ob q.1 fun l' => ob q.2 fun h' => gd (decide (0 ≤ l) && decide (0 ≤ l')) (some (some 0, some (h + h')))
noncomputable def symP (st : St) (op : Operator) (p q : Option Int × Option Int) (b : SI) : Option (Option Int × Option Int) := match op with
  | .Add => some (map2 (· + ·) p.1 q.1, map2 (· + ·) p.2 q.2)
  | .Sub => some (map2 (· - ·) p.1 q.2, map2 (· - ·) p.2 q.1)
  | .Mult => symMul p
  | .RShift => ob (asLit st b) (symShr p)
  | .FloorDiv => ob (asLit st b) (symDiv p)
  | .Mod => ob (asLit st b) symMod
  | .LShift => ob (asLit st b) (symShl p)
  | .BitAnd => ob (asLit st b) (symAnd p)
  | .BitOr => symOr p q
  | _ => none
noncomputable def symI (st : St) (op : Operator) (a b : SI) : Option (Option Int × Option Int) := ob (siB st a) fun p => ob (siB st b) fun q => symP st op p q b
noncomputable def newI (b : Option Int × Option Int) (st : St) : Outs := some [(.val (.int (.at st.bnd.length)), st.addB (b.1, b.2, none))]
noncomputable def tabI (f : Int → Option Int) (l : List Int) : Option (List Int) := List.rec (some []) (fun v _ ih => ob (f v) fun x => ob ih fun l => some (x :: l)) l
noncomputable def tabII (f : Int → Int → Option Int) (l : List Int) : List Int → Option (List Int) := List.rec (fun _ => some []) (fun a _ ih m => List.rec (some []) (fun b m _ => ob (f a b) fun x => ob (ih m) fun r => some (x :: r)) m) l
noncomputable def normT (i : Nat) (l : List Int) : SI := List.rec (.tab i []) (fun v r _ => cnd (r.all fun x => decide (x = v)) (.lit v) (.tab i (v :: r))) l
/-- a number of two octets, told by letters -/
noncomputable def linI (st : St) (op : Operator) (a b : SI) : Option SI := match op with
  | .Add => iLit a fun n => iOff b fun q o => some (.off q (n + o))
  | .BitOr => iLit a fun c => iLin b fun q o r => gd (decide (o = 0 ∧ 0 ≤ c ∧ c % 4096 = 0)) (ob (inS st (.at q) 0 15) fun _ => ob (inS st (.at r) 0 255) fun _ => some (.lin q (c / 256) r))
  | .RShift => iLin a fun q o r => iLit b fun n => orE (gd (decide (n = 0)) (some a)) (gd (decide (n = 8)) (ob (inS st (.at r) 0 255) fun _ => some (.off q o)))
  | .BitAnd => iLit b fun n => gd (decide (n = 255)) (orE (iLin a fun q o r => ob (inS st (.at r) 0 255) fun _ => some (.at r)) (iOff a fun q o => ob (inS st a 0 255) fun _ => some a))
  | .FloorDiv => iLin a fun q o r => iLit b fun n => gd (decide (n = 256)) (ob (inS st (.at r) 0 255) fun _ => some (.off q o))
  | .Mod => iLin a fun q o r => iLit b fun n => gd (decide (n = 256)) (ob (inS st (.at r) 0 255) fun _ => some (.at r))
  | _ => none
/-- an operation whose answer is told in full -/
noncomputable def exLL (op : Operator) (a b : SI) : Option SI := iLit a fun n => iLit b fun k => ob (litI op n k) fun r => some (.lit r)
noncomputable def exTL (op : Operator) (a b : SI) : Option SI := iTab a fun i vs => iLit b fun k => ob (tabI (fun v => litI op v k) vs) fun r => some (normT i r)
noncomputable def exLT (op : Operator) (a b : SI) : Option SI := iLit a fun n => iTab b fun i vs => ob (tabI (fun v => litI op n v) vs) fun r => some (normT i r)
noncomputable def exTT (op : Operator) (a b : SI) : Option SI := iTab a fun i vs => iTab b fun j us => gd (Nat.beq i j) (ob (tabII (litI op) vs us) fun r => some (normT i r))
noncomputable def exI (st : St) (op : Operator) (a b : SI) : Option SI := orE (exLL op a b) (orE (exTL op a b) (orE (exLT op a b) (orE (exTT op a b) (linI st op a b))))
noncomputable def binI (st : St) (op : Operator) (a b : SI) : Outs := orE (ob (exI st op a b) fun r => okv (.int r) st) (ob (symI st op a b) fun r => newI r st)
/-- a letter's worths, one by one -/
noncomputable def litGo (st : St) (i : Nat) (D : Option (List Nat)) (f : Int → St → Outs) (c : Nat) : Int → Outs := Nat.rec (fun _ => some []) (fun _ ih a => ob (f a (setB st i (some a, some a, D))) fun l => ob (ih (a + 1)) fun r => some (l ++ r)) c
noncomputable def litF (st : St) (k : SI) (f : Int → St → Outs) : Outs := orE (ob (asLit st k) fun n => f n st) (iAt k fun i => ob st.bnd[i]? fun b => ob b.1 fun lo => ob b.2.1 fun hi => gd (decide (hi - lo ≤ 15)) (litGo st i b.2.2 f (hi + 1 - lo).toNat lo))
noncomputable def isDiv (op : Operator) : Bool := match op with
  | .FloorDiv => true
  | _ => false
noncomputable def isAdd (op : Operator) : Bool := match op with
  | .Add => true
  | _ => false
/-- a letter of three worths at most -/
noncomputable def smallL (st : St) (j : Nat) : Bool := Option.rec false (fun b => b) (ob st.bnd[j]? fun b => ob b.1 fun lo => ob b.2.1 fun hi => some (decide (hi - lo ≤ 2)))
noncomputable def isAt (a : SI) : Bool := (iAt a some).isSome
noncomputable def binF (st : St) (op : Operator) (x y : SI) : Outs := orE (iAt y fun j => gd (isDiv op || (isAdd op && isAt x && smallL st j)) (litF st y fun n st1 => binI st1 op x (.lit n))) (binI st op x y)
section
variable {st : St} {σ : List Int} {a b : SI} {x y : Int}
theorem tabI_ok {f : Int → Option Int} {vs : List Int} : ∀ {r : List Int}, tabI f vs = some r → ∀ {d : Nat} {x : Int}, vs[d]? = some x → ∃ z, f x = some z ∧ r[d]? = some z := by
  induction vs with
  | nil => intro r _ d x h; cases h
  | cons v vs ih =>
    intro r e d x h
    refine i_ob (fun z e hz => i_ob (fun l e hl => ?_) e) e
    cases e
    cases d with
    | zero => cases h; exact ⟨z, hz, rfl⟩
    | succ d => exact ih hl (d := d) h
theorem tabII_ok {f : Int → Int → Option Int} {vs : List Int} : ∀ {us r : List Int}, tabII f vs us = some r → ∀ {d : Nat} {x y : Int}, vs[d]? = some x → us[d]? = some y → ∃ z, f x y = some z ∧ r[d]? = some z := by
  induction vs with
  | nil => intro us r _ d x y h; cases h
  | cons v vs ih =>
    intro us r e d x y h h'
    cases us with
    | nil => cases h'
    | cons u us =>
      refine i_ob (fun z e hz => i_ob (fun l e hl => ?_) e) e
      cases e
      cases d with
      | zero => cases h; cases h'; exact ⟨z, hz, rfl⟩
      | succ d => exact ih hl (d := d) h h'
theorem normT_ok {i : Nat} {r : List Int} {d z : Int} (hd : σ[i]? = some d) (h0 : 0 ≤ d) (hz : r[d.toNat]? = some z) : SIR σ (normT i r) z := by
  cases r with
  | nil => exact ⟨d, hd, h0, hz⟩
  | cons v r =>
    refine cnd_cases (P := fun n => SIR σ n z) (fun q => ?_) fun _ => ⟨d, hd, h0, hz⟩
    rcases List.mem_cons.mp (List.mem_of_getElem? hz) with e | hm
    · exact e
    · exact (show z = v from of_decide_eq_true (List.all_eq_true.mp q _ hm))
theorem exTab {f : Int → Option Int} {i : Nat} {vs : List Int} {r : SI} {d : Int} (e : (ob (tabI f vs) fun r => some (normT i r)) = some r) (h1 : σ[i]? = some d) (h2 : 0 ≤ d) (h3 : vs[d.toNat]? = some x) : ∃ z, f x = some z ∧ SIR σ r z :=
  i_ob (fun l e hl => by
    cases e
    obtain ⟨z, hf, hz⟩ := tabI_ok hl h3
    exact ⟨z, hf, normT_ok h1 h2 hz⟩) e
theorem and_hi {m v : Nat} (h : v < 4096) : (4096 * m) &&& v = 0 := by
  refine Nat.eq_of_testBit_eq fun i => ?_
  rw [Nat.testBit_and, Nat.zero_testBit, show 4096 * m = 2 ^ 12 * m from rfl, Nat.testBit_two_pow_mul]
  by_cases q : 12 ≤ i
  · rw [Nat.testBit_lt_two_pow (Nat.lt_of_lt_of_le h (Nat.pow_le_pow_right (by decide) q : 2 ^ 12 ≤ 2 ^ i)), Bool.and_false]
  · rw [decide_eq_false q, Bool.false_and, Bool.false_and]
theorem or_hi {c v : Int} (h0 : 0 ≤ c) (h1 : c % 4096 = 0) (h2 : 0 ≤ v) (h3 : v < 4096) : Builtin.bitOr c v = c + v := by
  obtain ⟨m, rfl⟩ : ∃ m : Nat, c = ((4096 * m : Nat) : Int) := ⟨(c / 4096).toNat, by omega⟩
  obtain ⟨u, rfl⟩ := Int.eq_ofNat_of_zero_le h2
  rw [bitOr_and, bitAnd_pp h0 h2, Int.toNat_natCast, Int.toNat_natCast, and_hi (Int.ofNat_lt.mp h3)]
  exact Int.sub_zero _
theorem lin_div {u b : Int} (h : 0 ≤ b ∧ b ≤ 255) : (256 * u + b) / 256 = u := by omega
theorem lin_mod {u b : Int} (h : 0 ≤ b ∧ b ≤ 255) : (256 * u + b) % 256 = b := by omega
/-- the answer is told in full -/
inductive Ex (σ : List Int) (op : Operator) (x y : Int) (r : SI) : Prop
  | mk (z : Int) (h : litI op x y = some z) (hr : SIR σ r z)
theorem Ex.of {op : Operator} {u : SI} {r : SI} {z : Int} (e : some u = some r) (h : litI op x y = some z) (hr : SIR σ u z) : Ex σ op x y r := by cases e; exact ⟨z, h, hr⟩
theorem linI_ok (B : F2 BR st.bnd σ) {op : Operator} {r : SI} (e : linI st op a b = some r) (ha : SIR σ a x) (hb : SIR σ b y) : Ex σ op x y r := by
  cases op <;> first | exact dead e | skip
  case Add => exact ha.onLit e fun e => hb.onOff e fun q o u e hu => .of e rfl ⟨u, hu, Int.add_left_comm x u o⟩
  case BitOr => exact ha.onLit e fun e => hb.onLin e fun q o r u v e hu hv => i_gd (fun e h1 => i_ob (fun _ e h2 => i_ob (fun _ e9 h3 => by
    obtain ⟨rfl, h4, h5⟩ := of_decide_eq_true h1
    have h6 := inS_ok (a := .at q) B h2 hu
    have h7 := inS_ok (a := .at r) B h3 hv
    exact .of e9 (congrArg some (or_hi h4 h5 (by omega) (by omega))) ⟨u, v, hu, hv, by omega⟩) e) e) e
  case RShift => exact i_iLin (fun q o r e z => hb.onLit e fun e => i_or (fun e => i_gd (fun e9 h1 => by
    cases of_decide_eq_true h1
    exact .of e9 (congrArg some (Int.ediv_one x)) ha) e) (fun e => i_gd (fun e h1 => i_ob (fun _ e9 h2 => by
    cases of_decide_eq_true h1
    obtain ⟨u, v, hu, hv, rfl⟩ := z ▸ ha
    exact .of e9 (congrArg some (lin_div (inS_ok (a := .at r) B h2 hv))) ⟨u, hu, rfl⟩) e) e) e) e
  case BitAnd => exact hb.onLit e fun e => i_gd (fun e8 h1 => by
    cases of_decide_eq_true h1
    exact i_or (fun e => ha.onLin e fun q o r u v e hu hv => i_ob (fun _ e h2 => .of (u := .at r) e (congrArg some ((bitAnd_m8 _).trans (lin_mod (inS_ok (a := .at r) B h2 hv)))) hv) e) (fun e => i_iOff (fun q o e z' => i_ob (fun _ e h2 => by
      have h3 := inS_ok B h2 ha
      exact .of e (congrArg some ((bitAnd_m8 _).trans (Int.emod_eq_of_lt h3.1 (Int.lt_add_one_of_le h3.2)))) ha) e) e) e8) e
  case FloorDiv => exact ha.onLin e fun q o r u v e hu hv => hb.onLit e fun e => i_gd (fun e h1 => i_ob (fun _ e9 h2 => by
    cases of_decide_eq_true h1
    exact .of e9 (congrArg some (lin_div (inS_ok (a := .at r) B h2 hv))) ⟨u, hu, rfl⟩) e) e
  case Mod => exact ha.onLin e fun q o r u v e hu hv => hb.onLit e fun e => i_gd (fun e h1 => i_ob (fun _ e9 h2 => by
    cases of_decide_eq_true h1
    exact .of e9 (congrArg some (lin_mod (inS_ok (a := .at r) B h2 hv))) hv) e) e
theorem exI_ok (B : F2 BR st.bnd σ) {op : Operator} {r : SI} (e : exI st op a b = some r) (ha : SIR σ a x) (hb : SIR σ b y) : Ex σ op x y r :=
  i_or (fun e => ha.onLit e fun e => hb.onLit e fun e => i_ob (fun v e hv => .of (u := .lit v) e hv rfl) e) (fun e => i_or (fun e => ha.onTab e fun i vs d e h1 h2 h3 => hb.onLit e fun e =>
    let ⟨z, h, hr⟩ := exTab (f := fun v => litI op v y) e h1 h2 h3; ⟨z, h, hr⟩) (fun e => i_or (fun e => ha.onLit e fun e => hb.onTab e fun i vs d e h1 h2 h3 =>
    let ⟨z, h, hr⟩ := exTab (f := fun v => litI op x v) e h1 h2 h3; ⟨z, h, hr⟩) (fun e => i_or (fun e => ha.onTab e fun i vs d e h1 h2 h3 => hb.onTab e fun j us d' e h1' h2' h3' => i_gd (fun e q => i_ob (fun l e9 hl => by
    cases Nat.eq_of_beq_eq_true q
    cases h1.symm.trans h1'
    obtain ⟨z, hf, hz⟩ := tabII_ok hl h3 h3'
    exact .of e9 hf (normT_ok h1 h2 hz)) e) e) (fun e => linI_ok B e ha hb) e) e) e) e
end
section
variable {A : Around} {Γ : FC} {st : St} {ρ : List Addr} {σ : List Int} {s : Shared} {Q : Value → Shared → Prop} {X : Value → Shared → Prop} {outs : List (RR × St)} {a b : SI} {x y : Int} {t u : Tok}
theorem litI_ok {op : Operator} {a b r : Int} (e : litI op a b = some r) (k : ∀ t' k', Q (.int r t') { s with toks := k' }) : wpAny (model prg w) A (binaryOp op (.int a t) (.int b u)) Q X s := by
  cases op <;> first | exact dead e | skip
  case Add => cases e; (with_reducible refine add_int ?_); exact k _ _
  case Sub => cases e; (with_reducible refine PyProof.Rows.sub_int ?_); exact k _ _
  case Mult =>
    refine i_gd (fun e q => ?_) e
    cases e
    rw [Bool.and_eq_true] at q
    exact mul_int (k _ _) (IntMulOk.of_left (intBits_le_64 (of_decide_eq_true q.1) (of_decide_eq_true q.2)))
  case Mod =>
    refine i_gd (fun e q => ?_) e
    cases e
    have q := of_decide_eq_true q
    (with_reducible refine PyProof.Rows.mod_int (Int.ne_of_gt q) ?_)
    rw [fm _ q]; exact k _ _
  case FloorDiv =>
    refine i_gd (fun e q => ?_) e
    cases e
    rw [Bool.and_eq_true] at q
    have q1 := of_decide_eq_true q.1
    (with_reducible refine floordiv_int (Int.ne_of_gt q1) ?_ (.inl (PyProof.noPylong_small ?_)))
    · rw [Int.fdiv_eq_ediv_of_nonneg _ (Int.le_of_lt q1)]; exact k _ _
    · have := of_decide_eq_true q.2
      omega
  case LShift =>
    refine i_gd (fun e q => ?_) e
    cases e
    obtain ⟨q1, q2, q3, q4⟩ := of_decide_eq_true q
    (with_reducible refine lshift_int_small q1 q2 ?_ (k _ _))
    omega
  case RShift =>
    refine i_gd (fun e q => ?_) e
    cases e
    (with_reducible refine rshift_int (of_decide_eq_true q) ?_)
    rw [fdp]; exact k _ _
  case BitAnd => cases e; (with_reducible refine and_int ?_); exact k _ _
  case BitOr => cases e; (with_reducible refine or_int ?_); exact k _ _
  case BitXor => cases e; (with_reducible refine xor_int ?_); exact k _ _
  case Pow =>
    refine i_gd (fun e q => ?_) e
    cases e
    obtain ⟨q1, q2, q3, q4⟩ := of_decide_eq_true q
    (with_reducible refine pow_int_small q1 (by omega) ?_ (k _ _))
    omega
theorem bitAnd_bd {x n : Int} (hx : 0 ≤ x) (hn : 0 ≤ n) : 0 ≤ Builtin.bitAnd x n ∧ Builtin.bitAnd x n ≤ x ∧ Builtin.bitAnd x n ≤ n := by
  rw [bitAnd_pp hx hn]
  refine ⟨Int.natCast_nonneg _, ?_, ?_⟩
  · exact Int.le_trans (Int.ofNat_le.mpr Nat.and_le_left) (Int.le_of_eq (Int.toNat_of_nonneg hx))
  · exact Int.le_trans (Int.ofNat_le.mpr Nat.and_le_right) (Int.le_of_eq (Int.toNat_of_nonneg hn))
theorem loI_of {h n v : Int} (h1 : v ≤ h) (h2 : v ≤ n) : v ≤ loI h n := cnd_cases (P := fun z => v ≤ z) (fun _ => h2) fun _ => h1
theorem Bd.mapO {p : Option Int × Option Int} {f : Int → Int} (hp : Bd p x) (hf : ∀ a b, a ≤ b → f a ≤ f b) : Bd (mapO f p.1, mapO f p.2) (f x) :=
  ⟨fun l e => by obtain ⟨v, hv, rfl⟩ := mapO_some e; exact hf _ _ (hp.1 _ hv), fun l e => by obtain ⟨v, hv, rfl⟩ := mapO_some e; exact hf _ _ (hp.2 _ hv)⟩
theorem Bd.two {l h x : Int} (h1 : l ≤ x) (h2 : x ≤ h) : Bd (some l, some h) x := ⟨fun u e => by cases e; exact h1, fun u e => by cases e; exact h2⟩
theorem symP_ok (B : F2 BR st.bnd σ) {op : Operator} {p q r : Option Int × Option Int} (hp : Bd p x) (hq : Bd q y) (hb : SIR σ b y) (e : symP st op p q b = some r) (k : ∀ v t' k', Bd r v → Q (.int v t') { s with toks := k' }) :
    wpAny (model prg w) A (binaryOp op (.int x t) (.int y u)) Q X s := by
  have lit : ∀ {f : Int → Option (Option Int × Option Int)}, ob (asLit st b) f = some r → f y = some r := fun e => i_ob (fun n e hn => asLit_ok B hn hb ▸ e) e
  cases op <;> first | exact dead e | skip
  case Add =>
    cases e
    (with_reducible refine add_int ?_)
    refine k _ _ _ ⟨fun l e => ?_, fun l e => ?_⟩ <;> obtain ⟨v, v', h1, h2, rfl⟩ := map2_some e
    · exact Int.add_le_add (hp.1 _ h1) (hq.1 _ h2)
    · exact Int.add_le_add (hp.2 _ h1) (hq.2 _ h2)
  case Sub =>
    cases e
    (with_reducible refine PyProof.Rows.sub_int ?_)
    refine k _ _ _ ⟨fun l e => ?_, fun l e => ?_⟩ <;> obtain ⟨v, v', h1, h2, rfl⟩ := map2_some e
    · exact Int.sub_le_sub (hp.1 _ h1) (hq.2 _ h2)
    · exact Int.sub_le_sub (hp.2 _ h1) (hq.1 _ h2)
  case Mult =>
    refine i_ob (fun l e h1 => i_ob (fun h e h2 => i_gd (fun e9 z => ?_) e) e) e
    cases e9
    rw [Bool.and_eq_true] at z
    exact mul_int (k _ _ _ ⟨fun _ e => (nomatch e), fun _ e => (nomatch e)⟩) (IntMulOk.of_left (intBits_le_64 (Int.lt_of_lt_of_le (of_decide_eq_true z.1) (hp.1 _ h1)) (Int.lt_of_le_of_lt (hp.2 _ h2) (of_decide_eq_true z.2))))
  case RShift =>
    refine i_gd (fun e z => ?_) (lit e)
    cases e
    (with_reducible refine rshift_int (of_decide_eq_true z) ?_)
    rw [fdp]
    exact k _ _ _ (hp.mapO fun _ _ => Int.ediv_le_ediv (Int.pow_pos (by decide)))
  case FloorDiv =>
    refine i_gd (fun e z => ?_) (lit e)
    cases e
    rw [Bool.and_eq_true] at z
    have q1 := of_decide_eq_true z.1
    (with_reducible refine floordiv_int (Int.ne_of_gt q1) ?_ (.inl (PyProof.noPylong_small ?_)))
    · rw [Int.fdiv_eq_ediv_of_nonneg _ (Int.le_of_lt q1)]; exact k _ _ _ (hp.mapO fun _ _ => Int.ediv_le_ediv q1)
    · have := of_decide_eq_true z.2
      omega
  case Mod =>
    refine i_gd (fun e z => ?_) (lit e)
    cases e
    have q1 := of_decide_eq_true z
    (with_reducible refine PyProof.Rows.mod_int (Int.ne_of_gt q1) ?_)
    rw [fm _ q1]
    exact k _ _ _ (.two (Int.emod_nonneg _ (Int.ne_of_gt q1)) (Int.le_sub_one_of_lt (Int.emod_lt_of_pos _ q1)))
  case LShift =>
    refine i_ob (fun l e h1 => i_ob (fun h e h2 => i_gd (fun e9 z => ?_) e) e) (lit e)
    cases e9
    obtain ⟨q1, q2, q3, q4⟩ := of_decide_eq_true z
    have z1 := hp.1 _ h1
    have z2 := hp.2 _ h2
    have hz : (0 : Int) ≤ 2 ^ y.toNat := Int.pow_nonneg (by decide)
    (with_reducible refine lshift_int_small q1 q2 ?_ ?_)
    · omega
    · exact k _ _ _ (.two (Int.mul_le_mul_of_nonneg_right z1 hz) (Int.mul_le_mul_of_nonneg_right z2 hz))
  case BitAnd =>
    refine i_ob (fun l e h1 => i_ob (fun h e h2 => i_gd (fun e9 z => ?_) e) e) (lit e)
    cases e9
    rw [Bool.and_eq_true] at z
    obtain ⟨c1, c2, c3⟩ := bitAnd_bd (Int.le_trans (of_decide_eq_true z.2) (hp.1 _ h1)) (of_decide_eq_true z.1)
    (with_reducible refine and_int ?_)
    exact k _ _ _ (.two c1 (loI_of (Int.le_trans c2 (hp.2 _ h2)) c3))
  case BitOr =>
    refine i_ob (fun l e h1 => i_ob (fun h e h2 => i_ob (fun l' e h1' => i_ob (fun h' e h2' => i_gd (fun e9 z => ?_) e) e) e) e) e
    cases e9
    rw [Bool.and_eq_true] at z
    have z1 := Int.le_trans (of_decide_eq_true z.1) (hp.1 _ h1)
    have z2 := Int.le_trans (of_decide_eq_true z.2) (hq.1 _ h1')
    obtain ⟨c1, c2, c3⟩ := bitAnd_bd z1 z2
    (with_reducible refine or_int ?_)
    rw [bitOr_and]
    have z3 := hp.2 _ h2
    have z4 := hq.2 _ h2'
    exact k _ _ _ (.two (by omega) (by omega))
theorem newI_ok {v : Int} {t' : Tok} {k' : Nat} {r : Option Int × Option Int} (e : newI r st = some outs) (hr : Bd r v) (F : FS Γ st ρ σ s.heap) (P : Post relE Γ ρ σ s outs Q X) : Q (.int v t') { s with toks := k' } := by
  cases e
  obtain ⟨g, m, os, F⟩ := F
  exact post_one P (ρ' := ρ) (σ' := σ ++ [v]) (List.prefix_refl _) (List.prefix_append _ _) (h' := s.heap) ⟨v, t', rfl, getLast_at F.blen⟩ ⟨g, m, os, F.letter ⟨hr, fun D e => nomatch e⟩⟩
theorem binI_ok {op : Operator} (e : binI st op a b = some outs) (ha : SIR σ a x) (hb : SIR σ b y) (F : FS Γ st ρ σ s.heap) (P : Post relE Γ ρ σ s outs Q X) :
    wpAny (model prg w) A (binaryOp op (.int x t) (.int y u)) Q X s :=
  i_or (fun e => i_ob (fun r e hr => by
    obtain ⟨z, h1, h2⟩ := exI_ok F.toBd hr ha hb
    exact litI_ok h1 fun t' k' => post_v e P F (x := .int z t') ⟨z, t', rfl, h2⟩ k') e) (fun e => i_ob (fun r e hr => i_ob (fun p hr hp => i_ob (fun q hr hq =>
    symP_ok F.toBd (siB_ok F.toBd hp ha) (siB_ok F.toBd hq hb) hb hr fun v t' k' h => newI_ok e h F P) hr) hr) e) e
theorem litGo_ok {D : Option (List Nat)} {f : Int → St → Outs} {i : Nat} {c : Nat} : ∀ {a : Int} {outs : List (RR × St)}, litGo st i D f c a = some outs → ∀ {n : Int}, a ≤ n → n < a + c → ∃ l, f n (setB st i (some n, some n, D)) = some l ∧ ∀ o ∈ l, o ∈ outs := by
  induction c with
  | zero => intro a outs _ n h1 h2; exact absurd h2 (Int.not_lt.mpr (by rw [Int.natCast_zero, Int.add_zero]; exact h1))
  | succ c ih =>
    intro a outs e n h1 h2
    refine i_ob (fun l e hl => i_ob (fun r e hr => ?_) e) e
    cases e
    by_cases q : n = a
    · subst q
      exact ⟨l, hl, fun o ho => List.mem_append_left _ ho⟩
    · obtain ⟨l', h3, h4⟩ := ih hr (n := n) (by omega) (by omega)
      exact ⟨l', h3, fun o ho => List.mem_append_right _ (h4 o ho)⟩
/-- what a letter's split has found -/
inductive LitAt (Γ : FC) (st : St) (ρ : List Addr) (σ : List Int) (h : Heap) (f : Int → St → Outs) (n : Int) (outs : List (RR × St)) : Prop
  | mk (st' : St) (l : List (RR × St)) (hf : f n st' = some l) (hm : ∀ o ∈ l, o ∈ outs) (F : FS Γ st' ρ σ h) (ho : st'.objs = st.objs) (hz : st'.frz = st.frz)
theorem litF_ok {h : Heap} {k : SI} {n : Int} {f : Int → St → Outs} (e : litF st k f = some outs) (hk : SIR σ k n) (F : FS Γ st ρ σ h) : LitAt Γ st ρ σ h f n outs :=
  i_or (fun e => i_ob (fun n' e hn => by
    cases asLit_ok F.toBd hn hk
    exact ⟨st, outs, e, fun _ h => h, F, rfl, rfl⟩) e) (fun e => i_iAt (fun i e z => i_ob (fun b e hb => i_ob (fun lo e h1 => i_ob (fun hi e9 h2 => i_gd (fun e8 _ => by
    subst z
    obtain ⟨g, m, os, F⟩ := F
    obtain ⟨⟨q1, q2⟩, q3⟩ := bd_at F.bd hb hk
    have q1 := q1 _ h1
    have q2 := q2 _ h2
    obtain ⟨l, h3, h4⟩ := litGo_ok e8 (n := n) q1 (by omega)
    exact ⟨_, l, h3, h4, ⟨g, m, os, F.refine hk ⟨.two (Int.le_refl _) (Int.le_refl _), q3⟩⟩, rfl, rfl⟩) e9) e) e) e) e) e
theorem binF_ok {op : Operator} (e : binF st op a b = some outs) (ha : SIR σ a x) (hb : SIR σ b y) (F : FS Γ st ρ σ s.heap) (P : Post relE Γ ρ σ s outs Q X) :
    wpAny (model prg w) A (binaryOp op (.int x t) (.int y u)) Q X s :=
  i_or (fun e => i_iAt (fun j e _ => i_gd (fun e _ => by
    obtain ⟨st', l, h1, h2, F', _⟩ := litF_ok e hb F
    exact binI_ok h1 ha (show SIR σ (.lit y) y from rfl) F' (P.sub h2)) e) e) (fun e => binI_ok e ha hb F P) e
end
noncomputable def binBB (op : Operator) (a b : SV) (st : St) : Outs := gd (isAdd op) (onBytes a fun x => onBytes b fun y => gd (Nat.ble (x.length + y.length) 16777216) (okv (.bytes (x ++ y)) st))
noncomputable def binop (op : Operator) (a b : SV) (st : St) : Outs := orE (onInt a fun x => onInt b fun y => binF st op x y) (binBB op a b st)
section
variable {A : Around} {Γ : FC} {st : St} {ρ : List Addr} {σ : List Int} {s : Shared} {Q : Value → Shared → Prop} {X : Value → Shared → Prop} {outs : List (RR × St)} {x y : Value} {a b : SV}
theorem isAdd_ok {op : Operator} (h : isAdd op = true) : op = .Add := by cases op <;> first | rfl | exact Bool.noConfusion h
theorem binop_ok {op : Operator} (e : binop op a b st = some outs) (ha : VR ρ σ a x) (hb : VR ρ σ b y) (F : FS Γ st ρ σ s.heap) (P : Post relE Γ ρ σ s outs Q X) :
    wpAny (model prg w) A (binaryOp op x y) Q X s :=
by
  refine i_or (fun e => ?_) (fun e => i_gd (fun e q => ?_) e) e
  · refine ha.onInt e fun n i t e hn => ?_
    exact hb.onInt e fun k j u e hk => binF_ok e hn hk F P
  · cases isAdd_ok q
    refine ha.onBytes e fun l b1 t e hl => ?_
    refine hb.onBytes e fun l' b2 u e hl' => i_gd (fun e q => ?_) e
    (with_reducible refine PySem.W.KBa.add_K rfl rfl ?_ ?_)
    · rw [← hl.length, ← hl'.length]; exact Nat.le_of_ble_eq_true q
    · intro t' k hh
      exact post_v e P F ⟨_, _, rfl, by rw [hh]; exact hl.append hl'⟩ _
end

end
-- W6
section
namespace TM
theorem noFill_tuple_mul : fillsNumberSlot (.type "tuple") "mul" = pure false :=
  PySem.fillsNumberSlot_seq (id := "tuple.__mul__") (r := some (.builtin "tuple.__rmul__")) F.slot_tuple_mul.lookup (by decide +kernel) F.slot_tuple_rmul.lookup (by decide +kernel)
theorem repeat_tuple : seqRepeat? (.type "tuple") = pure (some (.builtin "tuple.__mul__")) := by
  unfold seqRepeat?
  rw [PySem.seqSlot_of (T := "tuple") (name := "__mul__") (id := "tuple.__mul__") F.slot_tuple_mul.lookup (by decide +kernel), PySem.seqSlot_of (T := "tuple") (name := "__rmul__") (id := "tuple.__rmul__") F.slot_tuple_rmul.lookup (by decide +kernel)]
  rfl
theorem int_rmul_tuple (a : Int) (t : Tok) (l : Addr) (items : Array Value) (n : Nat) (d : Option Addr) (sl : Array (Option Value)) :
    Meets (Builtin.«int.__rmul__» ⟨[.int a t, .ref l], []⟩) (fun _ R s => s.heap.get? l = some { cls := .type "tuple", dict := d, data := .seq items n, slots := sl } ∧ R (.ok (.ret Value.notImplemented)) s) :=
  .of_wp fun prog w A R s h => by obtain ⟨hp, g, d, tk, os⟩ := s; obtain ⟨hl, h⟩ := h; wp_walk; exact ⟨_, rfl, h⟩
theorem tuple_mul (l : Addr) (items : Array Value) (n : Nat) (d : Option Addr) (sl : Array (Option Value)) (x : Int) (u : Tok) (h0 : 1 < x) (h1 : x ≤ 100) (hi : items.isEmpty = false) (hs : items.size * x.toNat ≤ 1000) :
    Meets (Builtin.«tuple.__mul__» ⟨[.ref l, .int x u], []⟩) (fun _ R s => s.heap.get? l = some { cls := .type "tuple", dict := d, data := .seq items n, slots := sl } ∧ R (.ok (.ret (Value.ref s.heap.objs.size))) { s with heap := s.heap.push { cls := Value.type "tuple", data := Data.seq (List.foldl (· ++ ·) #[] (List.replicate x.toNat items)) } }) :=
  .of_wp fun prog w A R s h => by
    obtain ⟨hp, g, d, tk, os⟩ := s; obtain ⟨hl, h⟩ := h
    have c1 : (decide (x < -2 ^ 63) || decide (x ≥ 2 ^ 63)) = false := by simp; omega
    have c2 : (items.isEmpty || x == 1) = false := by rw [hi]; simp; omega
    have c3 : (decide (x ≤ 0) || items.isEmpty) = false := by rw [hi]; simp; omega
    wp_walk
    rw [if_neg (by rw [c1]; decide)]
    wp_walk
    rw [if_neg (by rw [c2]; decide)]
    (try dsimp only)
    rw [if_neg (by rw [c3]; decide)]
    (try dsimp only)
    have c4 : ¬ (items.size : Int) * x > (2 ^ 63 - 1) / 8 := by
      have : (items.size : Int) * x = ((items.size * x.toNat : Nat) : Int) := by rw [Int.natCast_mul, Int.toNat_of_nonneg (by omega)]
      rw [this]; omega
    rw [if_neg c4]
    (try dsimp only)
    have c5 : Builtin.Tuple.tupleTooMany ((items.size : Int) * x) = false := by
      have : (items.size : Int) * x = ((items.size * x.toNat : Nat) : Int) := by rw [Int.natCast_mul, Int.toNat_of_nonneg (by omega)]
      rw [this]; unfold Builtin.Tuple.tupleTooMany
      have hs' := hs
      generalize items.size * x.toNat = k at hs' ⊢
      simp [sizeLine_eq]; omega
    rw [if_neg (by rw [c5]; decide)]
    (try dsimp only)
    wp_walk
    have hc2 : ¬ Builtin.List.listTooLong (items.size * x.toNat) = true := by
      have hs' := hs
      generalize items.size * x.toNat = k at hs' ⊢
      simp [Builtin.List.listTooLong, sizeLine_eq]; omega
    have hsz := AutoListH.joined_fits hc2
    rw [if_neg (by rw [hi]; decide)] at hsz
    rw [if_neg (Nat.not_lt.mpr hsz)]
    wp_walk
    exact ⟨_, rfl, h⟩
theorem foldl_app (n : Nat) (vs : List Value) : List.foldl (· ++ ·) #[] (List.replicate n vs.toArray) = ((List.replicate n vs).flatten).toArray := by
  have go : ∀ (n : Nat) (a : Array Value), List.foldl (· ++ ·) a (List.replicate n vs.toArray) = a ++ ((List.replicate n vs).flatten).toArray := by
    intro n
    induction n with
    | zero => intro a; simp
    | succ n ih => intro a; rw [List.replicate_succ, List.foldl_cons, ih, List.replicate_succ, List.flatten_cons]; simp
  rw [go]; simp
section
variable {prog : Program} {A : Around} {E : Value → Shared → Prop} {s : Shared} {h₀ : Heap} {L : Addr} {m : Str → Option Value} {news : List (Addr × Obj)} {l : Addr} {vs ws : List Value} {x : Int} {u : Tok} {Q : Value → Shared → Prop}
theorem mul (Fm : Fr h₀ L s.heap m) (N : News h₀ L s.heap news) (hl : (l, ({ cls := .type "tuple", data := .seq vs.toArray } : Obj)) ∈ news) (h0 : 1 < x) (h1 : x ≤ 100) (hi : vs.toArray.isEmpty = false) (hs : vs.length * x.toNat ≤ 1000) (e : (List.replicate x.toNat vs).flatten = ws)
    (h : ∀ D h', Fr h₀ L h' m → News h₀ L h' ((D, ({ cls := .type "tuple", data := .seq ws.toArray } : Obj)) :: news) → (∀ p ∈ news, p.1 < D) → Q (.ref D) { s with heap := h' }) : wpAny (model prog w) A (binaryOp .Mult (.ref l) (.int x u)) Q E s := by
  subst e
  have ho := (N _ hl).1
  have hT : s.TypeIs (.ref l) "tuple" := (N.isTup hl).typeIs
  refine wpAny_binaryOp_repeat_ref (T := "tuple") (U := "int") (by decide) hT (fun s' => typeIs_int s' x u) noFill_tuple_mul F.fills_int_mul F.slot_int_rmul repeat_tuple F.slot_int_index.lookup
    (call_meets F.slot_int_rmul (typeIs_int s x u) F.entry_int_rmul (F.args_int_rmul_2 _ _) (int_rmul_tuple x u l vs.toArray _ _ _)
      ⟨ho, rfl, hT, call_meets F.slot_tuple_mul hT F.entry_tuple_mul (F.args_tuple_mul_2 _ _) (tuple_mul l vs.toArray _ _ _ x u h0 h1 hi (by simpa using hs)) ⟨ho, ?_⟩⟩)
  have N' := News.push Fm N { cls := Value.type "tuple", data := Data.seq (List.foldl (fun x1 x2 => x1 ++ x2) #[] (List.replicate x.toNat vs.toArray)) }
  have e := foldl_app x.toNat vs
  rw [e] at N' ⊢
  exact h _ _ (Fm.push _) N' (fun p hp => Heap.lt_size (N p hp).1)
end
end TM

noncomputable def isInts (l : List SV) : Option (List Int) := List.rec (some []) (fun v _ ih => onInt v fun n => iLit n fun n => ob ih fun l => some (n :: l)) l
noncomputable def allInts (l : List SV) : Option (List SI) := List.rec (some []) (fun v _ ih => onInt v fun n => ob ih fun l => some (n :: l)) l
theorem isInts_ok {ρ : List Addr} {σ : List Int} {xs : List SV} : ∀ {ns : List Int} {vs : List Value}, isInts xs = some ns → F2 (VR ρ σ) xs vs → IntsAre vs ns := by
  induction xs with
  | nil => intro ns vs e h; cases e; cases h; exact .nil
  | cons x r ih =>
    intro ns vs e h
    cases h with
    | cons hx hr => exact hx.onInt e fun n y t e hn => hn.onLit e fun e => i_ob (fun l e hl => by cases e; exact .cons _ _ (ih hl hr)) e
theorem allInts_ok {ρ : List Addr} {σ : List Int} {xs : List SV} : ∀ {vs : List Value} {l : List SI}, allInts xs = some l → F2 (VR ρ σ) xs vs → ∃ ns, IntsAre vs ns ∧ F2 (SIR σ) l ns := by
  induction xs with
  | nil => intro vs l e h; cases e; cases h; exact ⟨_, .nil, .nil⟩
  | cons x r ih =>
    intro vs l e h
    cases h with
    | cons hx hr => exact hx.onInt e fun n y t e hn => i_ob (fun l e hl => by cases e; obtain ⟨ns, h1, h2⟩ := ih hl hr; exact ⟨_, .cons y t h1, .cons hn h2⟩) e
theorem rep_ok {ρ : List Addr} {σ : List Int} {xs : List SV} {vs : List Value} (h : F2 (VR ρ σ) xs vs) (k : Nat) : F2 (VR ρ σ) (List.replicate k xs).flatten (List.replicate k vs).flatten := by
  induction k with
  | zero => exact .nil
  | succ k ih => rw [List.replicate_succ, List.replicate_succ, List.flatten_cons, List.flatten_cons]; exact h.append ih
section
variable (P : Params) (st : St)
noncomputable def tupK (a : Addr) : Option (List SV) := ob (kget P a) fun o => vType o.cls fun c => dSeq o.data fun vs _ => gd (decide (c = "tuple")) (ofKs vs.toList)
/-- an own or a top's tuple's items -/
noncomputable def tupOf (v : SV) : Option (List SV) := orE (onTup st v fun _ xs => some xs) (onRef v (tupK P))
/-- what a tuple or a list holds -/
noncomputable def seqK (v : SV) : Option (Bool × List SV) := orE (ob (tupOf P st v) fun xs => some (true, xs)) (onList st v fun _ xs => some (false, xs))
noncomputable def leafK (v : SV) : Option Unit := orE (onNone v (some ())) (orE (onBool v fun _ => some ()) (orE (onInt v fun _ => some ()) (onStr v fun x => gd (PyData.strOk x) (some ()))))
/-- a worth that can be read as data -/
noncomputable def okD (n : Nat) : SV → Option Unit := Nat.rec (fun _ => none) (fun _ ih v => orE (leafK v) (ob (seqK P st v) fun q => gd (q.2.all fun y => (ih y).isSome) (some ()))) n
noncomputable def tagV (v : SV) : Option Nat := orE (onNone v (some 0)) (orE (onBool v fun _ => some 1) (orE (onInt v fun _ => some 1) (orE (onStr v fun _ => some 2) (ob (seqK P st v) fun q => some (cnd q.1 3 4)))))
noncomputable def eqVs (f : SV → SV → Option Bool) (l : List SV) : List SV → Option Bool := List.rec (fun m => some m.isEmpty) (fun x _ ih m => List.rec (some false) (fun y m _ => ob (f x y) fun c => cnd c (ih m) (some false)) m) l
noncomputable def eqLeaf (v w : SV) : Option Bool := orE (onNone v (onNone w (some true))) (orE (onBool v fun a => onBool w fun b => some (a == b)) (orE (onInt v fun a => onInt w fun b => eqD st a b) (onStr v fun x => onStr w fun y => some (x == y))))
/-- whether two worths are equal as data -/
noncomputable def eqV (n : Nat) : SV → SV → Option Bool := Nat.rec (fun _ _ => none) (fun _ ih v w => orE (eqLeaf st v w) (ob (tagV P st v) fun a => ob (tagV P st w) fun b => cnd (Nat.beq a b) (ob (seqK P st v) fun p => ob (seqK P st w) fun q => eqVs ih p.2 q.2) (some false))) n
noncomputable def inV (v : SV) (l : List SV) : Option Bool := List.rec (some false) (fun y _ ih => ob (eqV P st 4 y v) fun c => cnd c (some true) ih) l
noncomputable def eqC (a b : SV) : Option Bool := ob (okD P st 4 a) fun _ => ob (okD P st 4 b) fun _ => eqV P st 4 a b
noncomputable def inC (a b : SV) : Option Bool := ob (okD P st 4 a) fun _ => ob (okD P st 5 b) fun _ => ob (seqK P st b) fun q => gd q.1 (inV P st a q.2)
/-- tuples of which one is empty -/
noncomputable def emC (a b : SV) : Option Bool := ob (tupOf P st a) fun p => ob (tupOf P st b) fun q => gd (p.isEmpty || q.isEmpty) (some (p.length == q.length))
noncomputable def eqE (a b : SV) (st : St) : Option Bool := orE (emC P st a b) (eqC P st a b)
noncomputable def undecs (f : SV → SV → Option (Nat × List Bool)) (l : List SV) : List SV → Option (Nat × List Bool) := List.rec (fun _ => none) (fun x _ ih m => List.rec none (fun y m _ => orE (f x y) (ih m)) m) l
noncomputable def undecI (a b : SI) : Option (Nat × List Bool) := orE (iTab a fun i vs => iLit b fun k => some (i, vs.map fun v => decide (v = k))) (iLit a fun k => iTab b fun i vs => some (i, vs.map fun v => decide (v = k)))
/-- a letter on which a comparison of data hangs -/
noncomputable def undec (n : Nat) : SV → SV → Option (Nat × List Bool) := Nat.rec (fun _ _ => none) (fun _ ih v w => orE (onInt v fun a => onInt w fun b => cnd (eqD st a b).isNone (undecI a b) none) (ob (seqK P st v) fun p => ob (seqK P st w) fun q => undecs ih p.2 q.2)) n
end
noncomputable def eachC (f : St → Option Bool) (l : List (RR × St)) : Outs := List.rec (some []) (fun o _ ih => ob (f o.2) fun c => ob ih fun l => some (bOut c o.2 :: l)) l
section
variable (P : Params)
/-- a comparison of data, decided here or after a letter has been split -/
noncomputable def tryC (f : St → Option Bool) (a b : SV) (st : St) : Outs := orE (ob (f st) fun c => okb c st) (ob (undec P st 4 a b) fun q => ob (forkT st q.1 q.2) (eachC f))
noncomputable def dataC (op : CmpOp) (a b : SV) (st : St) : Outs := match op with
  | .Eq => tryC P (eqE P a b) a b st
  | .NotEq => tryC P (fun st => neg? (eqE P a b st)) a b st
  | .In => ob (inC P st a b) fun c => okb c st
  | .NotIn => ob (inC P st a b) fun c => okb (!c) st
  | _ => none
noncomputable def notNone (v : SV) : Bool := SV.rec false (fun _ => true) (fun _ => true) (fun _ => true) (fun _ => true) (fun _ => true) (fun u => (vRef u some).isSome) v
noncomputable def isK (op : CmpOp) (c : Bool) (st : St) : Outs := match op with
  | .Is => okb c st
  | .IsNot => okb (!c) st
  | _ => none
noncomputable def eqK (op : CmpOp) (c : Bool) (st : St) : Outs := match op with
  | .Eq => okb c st
  | .NotEq => okb (!c) st
  | _ => none
noncomputable def isIn (op : CmpOp) : Bool := match op with
  | .In => true
  | .NotIn => true
  | _ => false
noncomputable def inB (op : CmpOp) (c : Bool) : Bool := match op with
  | .In => c
  | _ => !c
noncomputable def cmpBytes (op : CmpOp) (a b : SV) (st : St) : Outs := onBytes a fun x => onBytes b fun y => ob (eqDs st x y) fun c => eqK op c st
noncomputable def cmpNone (op : CmpOp) (a b : SV) (st : St) : Outs := onNone b (orE (onNone a (isK op true st)) (gd (notNone a) (isK op false st)))
noncomputable def cmpIn (op : CmpOp) (a b : SV) (st : St) : Outs := gd (isIn op) (onInt a fun k => ob (tupOf P st b) fun xs => ob (isInts xs) fun ns => orE (iLit k fun n => okb (inB op (ns.any (· == n))) st) (iTab k fun i vs => forkT st i (vs.map fun n => inB op (ns.any (· == n)))))
/-- a dict of numbers -/
noncomputable def onIdict {β : Type} (st : St) (v : SV) (f : Nat → List (Int × SV) → Option β) : Option β := onObj st v fun j o => oIdict o fun i es => gd (Nat.beq i j) (f j es)
noncomputable def getI (n : Int) (es : List (Int × SV)) : Option SV := List.rec none (fun e _ ih => cnd (decide (e.1 = n)) (some e.2) ih) es
noncomputable def cmpId (op : CmpOp) (a b : SV) (st : St) : Outs := gd (isIn op) (onIdict st b fun _ es => onInt a fun k => iLit k fun n => okb (inB op (getI n es).isSome) st)
noncomputable def cmpop (op : CmpOp) (a b : SV) (st : St) : Outs := orE (onInt a fun x => onInt b fun y => cmpF st op x y) (orE (cmpBytes op a b st) (orE (cmpNone op a b st) (orE (cmpIn P op a b st) (orE (cmpId op a b st) (dataC P op a b st)))))
noncomputable def seqAdd (st : St) (a b : SV) : Outs := ob (tupOf P st a) fun p => ob (tupOf P st b) fun q => gd (Nat.ble (p.length + q.length) 1000) (orE (l0 p (okv b st)) (lc p fun _ _ => orE (l0 q (okv a st)) (lc q fun _ _ => newO (.tup (p ++ q)) st)))
noncomputable def mulOk (n : Int) (xs : List SV) : Bool := decide (1 < n ∧ n ≤ 100) && !xs.isEmpty && Nat.ble (xs.length * n.toNat) 1000
noncomputable def seqMul (st : St) (a b : SV) : Outs := onInt b fun k => iLit k fun n => orE (onTup st a fun _ xs => gd (mulOk n xs) (newO (.tup (List.replicate n.toNat xs).flatten) st)) (onList st a fun _ xs => gd (mulOk n xs && (allInts xs).isSome) (newO (.list (List.replicate n.toNat xs).flatten) st))
noncomputable def isMul (op : Operator) : Bool := match op with
  | .Mult => true
  | _ => false
noncomputable def binop2 (op : Operator) (a b : SV) (st : St) : Outs := orE (binop op a b st) (orE (gd (isAdd op) (seqAdd P st a b)) (gd (isMul op) (seqMul st a b)))
noncomputable def truth (v : SV) (st : St) : Option Bool := orE (onBool v some) (orE (onNone v (some false)) (orE (onInt v fun n => neg? (eqD st n (.lit 0))) (onStr v fun x => gd (decide ((x.length : Int) < 2 ^ 63)) (some ((x.length : Int) != 0)))))
end
section
variable {A : Around} {Γ : FC} {st : St} {ρ : List Addr} {σ : List Int} {s : Shared} {Q : Value → Shared → Prop} {X : Value → Shared → Prop} {outs : List (RR × St)} {g h : Heap} {m : Str → Option Value} {os : List Obj} {v : SV} {x : Value} {motive : Value → Prop}
@[elab_as_elim] theorem FSx.tupOf (XB : (hd.heap_1 w.params).In base) (F : FSx Γ st ρ σ h g m os) {xs : List SV} (hv : VR ρ σ v x) (e : tupOf w.params st v = some xs) (k : ∀ a vs, IsTup h a vs.toArray → F2 (VR ρ σ) xs vs → motive (.ref a)) : motive x := by
  refine i_or (fun e => ?_) (fun e => ?_) e
  · exact F.onTup hv e fun i ys a vs e ha hm hvs => by cases e; exact k a vs (F.N.isTup hm) hvs
  · refine hv.onRef e fun a e => i_ob (fun o e ho => i_vType (fun c e z => i_dSeq (fun vs n e z' => i_gd (fun e q => ?_) e) e) e) e
    rw [of_decide_eq_true q] at z
    exact k a vs.toList ⟨o, F.K XB ho, z, n, z'⟩ (ofKs_ok e)
@[elab_as_elim] theorem FSx.seqK (XB : (hd.heap_1 w.params).In base) (F : FSx Γ st ρ σ h g m os) {q : Bool × List SV} (hv : VR ρ σ v x) (e : seqK w.params st v = some q) (k : ∀ a vs o n, h.get? a = some o → o.cls = .type (cond q.1 "tuple" "list") → o.data = .seq (List.toArray vs) n → F2 (VR ρ σ) q.2 vs → motive (.ref a)) : motive x := by
  refine i_or (fun e => i_ob (fun xs e hx => ?_) e) (fun e => ?_) e
  · cases e
    refine F.tupOf XB hv hx fun a vs ht hvs => ?_
    obtain ⟨o, h1, h2, n, h3⟩ := ht
    exact k a vs o n h1 h2 h3 hvs
  · exact F.onList hv e fun i ys a vs n e ha ho hm hvs => by cases e; exact k a vs _ n (F.N _ hm).1 rfl rfl hvs
noncomputable def LeafR (σ : List Int) (v : SV) (d : PyData) : Prop := SV.rec (d = .none) (fun b => d = .bool b) (fun k => ∃ i, d = .int i ∧ SIR σ k i) (fun x => d = .str x) (fun _ => False) (fun _ => False) (fun _ => False) v
/-- a worth, read as data -/
noncomputable def DR (P : Params) (st : St) (σ : List Int) (n : Nat) : SV → PyData → Prop := Nat.rec (fun _ _ => False) (fun _ ih v d => Option.rec (LeafR σ v d) (fun q => ∃ ds, d = cond q.1 (.tuple ds) (.list ds) ∧ F2 ih q.2 ds) (seqK P st v)) n
theorem DR.seq {P : Params} {n : Nat} {d : PyData} {q : Bool × List SV} (h : DR P st σ (n + 1) v d) (e : seqK P st v = some q) : ∃ ds, d = cond q.1 (.tuple ds) (.list ds) ∧ F2 (DR P st σ n) q.2 ds := by
  have h : Option.rec (LeafR σ v d) (fun q => ∃ ds, d = cond q.1 (.tuple ds) (.list ds) ∧ F2 (DR P st σ n) q.2 ds) (seqK P st v) := h
  rw [e] at h; exact h
theorem DR.of_seq {P : Params} {n : Nat} {ds : List PyData} {q : Bool × List SV} (e : seqK P st v = some q) (h : F2 (DR P st σ n) q.2 ds) : DR P st σ (n + 1) v (cond q.1 (.tuple ds) (.list ds)) := by
  show Option.rec (LeafR σ v _) (fun q' => ∃ ds', cond q.1 (PyData.tuple ds) (.list ds) = cond q'.1 (.tuple ds') (.list ds') ∧ F2 (DR P st σ n) q'.2 ds') (seqK P st v)
  rw [e]; exact ⟨ds, rfl, h⟩
inductive RdAt (h : Heap) (P : Params) (st : St) (σ : List Int) (n : Nat) (v : SV) (x : Value) : Prop
  | mk (d : PyData) (as : List Addr) (h1 : Reads h x d as) (h2 : d.canLay0 = true) (h3 : d.depth ≤ n) (h4 : DR P st σ n v d)
inductive RdsAt (h : Heap) (P : Params) (st : St) (σ : List Int) (n : Nat) (xs : List SV) (vs : List Value) : Prop
  | mk (ds : List PyData) (as : List Addr) (h1 : ReadsAll h vs ds as) (h2 : PyData.canLayAll0 ds = true) (h3 : PyData.depthAll ds ≤ n) (h4 : F2 (DR P st σ n) xs ds)
theorem rd_all {P : Params} {n : Nat} {xs : List SV} (k : ∀ y ∈ xs, ∀ x, VR ρ σ y x → RdAt h P st σ n y x) : ∀ {vs : List Value}, F2 (VR ρ σ) xs vs → RdsAt h P st σ n xs vs := by
  induction xs with
  | nil => intro vs hx; cases hx; exact ⟨[], [], .nil, by simp [PyData.canLayAll0], by simp [PyData.depthAll], .nil⟩
  | cons y ys ih =>
    intro vs hx
    cases hx with
    | cons hy hr =>
      obtain ⟨d, as, h1, h2, h3, h4⟩ := k y (.head _) _ hy
      obtain ⟨ds, bs, k1, k2, k3, k4⟩ := ih (fun z hz => k z (.tail _ hz)) hr
      exact ⟨d :: ds, as ++ bs, .cons h1 k1, by simp [PyData.canLayAll0, h2, k2], by simp only [PyData.depthAll]; exact Nat.max_le.mpr ⟨h3, k3⟩, .cons h4 k4⟩
theorem rd_leaf {P : Params} {n : Nat} {u : Unit} (e : leafK v = some u) (hv : VR ρ σ v x) : RdAt h P st σ (n + 1) v x :=
  i_or (fun e => i_onNone (fun _ z => by subst z; cases hv; exact ⟨.none, [], .none, by simp [PyData.canLay0], by simp [PyData.depth], (rfl : LeafR σ .none .none)⟩) e) (fun e => i_or (fun e => i_onBool (fun b _ z => by subst z; cases hv; exact ⟨.bool b, [], .bool b, by simp [PyData.canLay0], by simp [PyData.depth], (rfl : LeafR σ (.bool b) _)⟩) e) (fun e => i_or
    (fun e => i_onInt (fun k _ z => by subst z; obtain ⟨i, t, rfl, hi⟩ := hv; exact ⟨.int i, [], .int i t, by simp [PyData.canLay0], by simp [PyData.depth], (⟨i, rfl, hi⟩ : LeafR σ (.int k) _)⟩) e) (fun e => i_onStr (fun k e z => i_gd (fun _ q => by subst z; obtain ⟨t, rfl⟩ := hv; exact ⟨.str k, [], .str k t, by simp only [PyData.canLay0]; exact q, by simp [PyData.depth], (rfl : LeafR σ (.str k) _)⟩) e) e) e) e) e
theorem rd_ok (XB : (hd.heap_1 w.params).In base) (F : FSx Γ st ρ σ h g m os) {n : Nat} : ∀ {v : SV} {x : Value} {u : Unit}, okD w.params st n v = some u → VR ρ σ v x → RdAt h w.params st σ n v x := by
  induction n with
  | zero => intro v x u e; exact dead e
  | succ n ih =>
    intro v x u e hv
    refine i_or (fun e => rd_leaf e hv) (fun e => i_ob (fun q e hs => i_gd (fun _ z => ?_) e) e) e
    refine F.seqK XB hv hs fun a vs o m' h1 h2 h3 h4 => ?_
    obtain ⟨ds, as, k1, k2, k3, k4⟩ := rd_all (h := h) (P := w.params) (st := st) (n := n) (fun y hy x hx => (Option.isSome_iff_exists.mp (List.all_eq_true.mp z y hy)).elim fun _ q => ih q hx) h4
    have hD := DR.of_seq hs k4
    obtain ⟨b, xs⟩ := q
    cases b with
    | true => exact ⟨.tuple ds, as, .tuple h1 h2 h3 k1, by simp only [PyData.canLay0]; exact k2, by simp only [PyData.depth]; exact Nat.succ_le_succ k3, hD⟩
    | false => exact ⟨.list ds, a :: as, .list h1 h2 h3 k1, by simp only [PyData.canLay0]; exact k2, by simp only [PyData.depth]; exact Nat.succ_le_succ k3, hD⟩
theorem eqVs_ok {f : SV → SV → Option Bool} {R : SV → PyData → Prop} (hf : ∀ v w d e c, f v w = some c → R v d → R w e → PyData.eqv d e = c) {xs : List SV} : ∀ {ys : List SV} {ds es : List PyData} {c : Bool}, eqVs f xs ys = some c → F2 R xs ds → F2 R ys es → PyData.eqvAll ds es = c := by
  induction xs with
  | nil =>
    intro ys ds es c e h1 h2
    cases h1
    cases h2 with
    | nil => cases e; simp only [PyData.eqvAll]; rfl
    | cons _ _ => cases e; simp only [PyData.eqvAll]; rfl
  | cons x xs ih =>
    intro ys ds es c e h1 h2
    cases h1 with
    | cons p1 p2 =>
      cases h2 with
      | nil => cases e; simp only [PyData.eqvAll]
      | cons q1 q2 =>
        simp only [PyData.eqvAll]
        refine i_ob (fun d e hd => i_cnd (fun e z => ?_) (fun e z => ?_) e) e
        · subst z
          rw [hf _ _ _ _ _ hd p1 q1, ih e p2 q2, Bool.true_and]
        · subst z
          cases e
          rw [hf _ _ _ _ _ hd p1 q1, Bool.false_and]
noncomputable def tagD (d : PyData) : Nat := match d with
  | .none => 0
  | .bool _ => 1
  | .int _ => 1
  | .str _ => 2
  | .tuple _ => 3
  | .list _ => 4
  | .dict _ => 5
theorem tag_ne {d e : PyData} (h : tagD d ≠ tagD e) : PyData.eqv d e = false := by
  cases d <;> cases e <;> first | exact absurd rfl h | simp only [PyData.eqv]
theorem tagV_ok {P : Params} {n : Nat} {d : PyData} {t : Nat} (e : tagV P st v = some t) (h : DR P st σ (n + 1) v d) : tagD d = t :=
  i_or (fun e => i_onNone (fun e z => by subst z; cases e; cases (h : LeafR σ .none d); rfl) e) (fun e => i_or (fun e => i_onBool (fun b e z => by subst z; cases e; cases (h : LeafR σ (.bool b) d); rfl) e) (fun e => i_or (fun e => i_onInt (fun b e z => by subst z; cases e; obtain ⟨i, rfl, _⟩ := (h : LeafR σ (.int b) d); rfl) e) (fun e => i_or
    (fun e => i_onStr (fun b e z => by subst z; cases e; cases (h : LeafR σ (.str b) d); rfl) e) (fun e => i_ob (fun q e hs => by cases e; obtain ⟨ds, rfl, _⟩ := h.seq hs; obtain ⟨b, xs⟩ := q; cases b <;> rfl) e) e) e) e) e
theorem eqLeaf_ok (B : F2 BR st.bnd σ) {P : Params} {n : Nat} {v w : SV} {d e : PyData} {c : Bool} (h : eqLeaf st v w = some c) (hv : DR P st σ (n + 1) v d) (hw : DR P st σ (n + 1) w e) : PyData.eqv d e = c :=
  i_or (fun h => i_onNone (fun h z => i_onNone (fun h9 z' => by subst z z'; cases h9; cases (hv : LeafR σ .none d); cases (hw : LeafR σ .none e); simp only [PyData.eqv]) h) h) (fun h => i_or (fun h => i_onBool (fun a h z => i_onBool (fun b h9 z' => by subst z z'; cases h9; cases (hv : LeafR σ (.bool a) d); cases (hw : LeafR σ (.bool b) e); simp only [PyData.eqv]) h) h) (fun h => i_or
    (fun h => i_onInt (fun a h z => i_onInt (fun b h9 z' => by subst z z'; obtain ⟨i, rfl, hi⟩ := (hv : LeafR σ (.int a) d); obtain ⟨j, rfl, hj⟩ := (hw : LeafR σ (.int b) e); simp only [PyData.eqv]; exact eqD_ok B hi hj h9) h) h) (fun h => i_onStr (fun a h z => i_onStr (fun b h9 z' => by subst z z'; cases h9; cases (hv : LeafR σ (.str a) d); cases (hw : LeafR σ (.str b) e); simp only [PyData.eqv]) h) h) h) h) h
theorem eqV_ok (B : F2 BR st.bnd σ) {P : Params} {n : Nat} : ∀ (v w : SV) (d e : PyData) (c : Bool), eqV P st n v w = some c → DR P st σ n v d → DR P st σ n w e → PyData.eqv d e = c := by
  induction n with
  | zero => intro v w d e c h; exact dead h
  | succ n ih =>
    intro v w d e c h hv hw
    refine i_or (fun h => eqLeaf_ok B h hv hw) (fun h => i_ob (fun a h ha => i_ob (fun b h hb => ?_) h) h) h
    have ta := tagV_ok ha hv
    have tb := tagV_ok hb hw
    refine i_cnd (fun h q => i_ob (fun p h hp => i_ob (fun r h hr => ?_) h) h) (fun h q => ?_) h
    · have q := Nat.eq_of_beq_eq_true q
      obtain ⟨ds, rfl, hds⟩ := hv.seq hp
      obtain ⟨es, rfl, hes⟩ := hw.seq hr
      have key := eqVs_ok ih h hds hes
      rw [← ta, ← tb] at q
      obtain ⟨b1, xs⟩ := p
      obtain ⟨b2, ys⟩ := r
      cases b1 <;> cases b2 <;> first | (exact absurd q (by decide : (3 : Nat) ≠ 4)) | (exact absurd q (by decide : (4 : Nat) ≠ 3)) | (simp only [cond, PyData.eqv]; exact key)
    · cases h
      refine tag_ne fun z => ?_
      rw [ta, tb] at z
      rw [z, Nat.beq_refl] at q; cases q
theorem inV_ok (B : F2 BR st.bnd σ) {P : Params} {d : PyData} (hv : DR P st σ 4 v d) {ys : List SV} : ∀ {es : List PyData} {c : Bool}, inV P st v ys = some c → F2 (DR P st σ 4) ys es → es.any (fun y => PyData.eqv y d) = c := by
  induction ys with
  | nil => intro es c e h; cases e; cases h; rfl
  | cons y ys ih =>
    intro es c e h
    cases h with
    | cons h1 h2 =>
      rw [List.any_cons]
      refine i_ob (fun b e hb => ?_) e
      rw [eqV_ok B _ _ _ _ _ hb h1 hv]
      refine i_cnd (fun e z => ?_) (fun e z => ?_) e
      · subst z; cases e; exact Bool.true_or _
      · subst z; exact (Bool.false_or _).trans (ih e h2)
theorem sh_ok {d : PyData} {n : Nat} (h1 : d.canLay0 = true) (h2 : d.depth ≤ n) (h3 : n ≤ 64) : PySem.SeqAt.shaped d = true := by
  unfold PySem.SeqAt.shaped; rw [h1, Bool.true_and]; exact decide_eq_true (Nat.le_trans h2 h3)
end
section
variable {A : Around} {Γ : FC} {st : St} {ρ : List Addr} {σ : List Int} {s : Shared} {Q : Value → Shared → Prop} {X : Value → Shared → Prop} {outs : List (RR × St)} {g h : Heap} {m : Str → Option Value} {os : List Obj} {a b : SV} {x y : Value} {motive : Value → Prop}
/-- a comparison of data, answered -/
structure EqA (A : Around) (s : Shared) (x y : Value) (c : Bool) : Prop where
  eq : ∀ {Q X : Value → Shared → Prop}, Q (.bool c) s → wpAny (model prg w) A (compareOp .Eq x y) Q X s
  ne : ∀ {Q X : Value → Shared → Prop}, Q (.bool !c) s → wpAny (model prg w) A (compareOp .NotEq x y) Q X s
theorem emC_ok (hu : A.units + 100 < cLine) (XB : (hd.heap_1 w.params).In base) (F : FSx Γ st ρ σ s.heap g m os) {c : Bool} (e : emC w.params st a b = some c) (ha : VR ρ σ a x) (hb : VR ρ σ b y) : EqA A s x y c := by
  refine i_ob (fun p e hp => i_ob (fun q e hq => i_gd (fun e z => ?_) e) e) e
  refine F.tupOf XB ha hp fun a1 vs t1 hvs => ?_
  refine F.tupOf XB hb hq fun a2 us t2 hus => ?_
  cases e
  have hmin : min vs.toArray.size us.toArray.size = 0 := by
    rw [List.size_toArray, List.size_toArray, ← hvs.length, ← hus.length]
    rw [Bool.or_eq_true, List.isEmpty_iff_length_eq_zero, List.isEmpty_iff_length_eq_zero] at z
    exact z.elim (fun z => by rw [z]; exact Nat.zero_min _) fun z => by rw [z]; exact Nat.min_zero _
  have hnone : ∀ j (h1 : j < vs.toArray.size) (h2 : j < us.toArray.size), False := fun j h1 h2 => Nat.not_lt_zero j (hmin ▸ Nat.lt_min.mpr ⟨h1, h2⟩)
  have hl : ((List.range (min vs.toArray.size us.toArray.size)).all (fun _ => true) && vs.toArray.size == us.toArray.size) = (p.length == q.length) := by rw [hmin, hvs.length, hus.length]; rfl
  have hle : min vs.toArray.size us.toArray.size ≤ 0 := Nat.le_of_eq hmin
  constructor
  · intro Q X k
    refine PySem.SeqAt.eq_tupleAt (e := fun _ => true) t1 t2 (by omega) (fun j h1 h2 => (hnone j h1 h2).elim) ?_
    rw [hl]; exact k
  · intro Q X k
    refine PySem.SeqAt.RcNeAt.tuples (e := fun _ => true) t1 t2 (by omega) (fun j h1 h2 => (hnone j h1 h2).elim) _ _ _ _ ?_
    rw [hl]; exact k
theorem eqE_ok (XB : (hd.heap_1 w.params).In base) (F : FS Γ st ρ σ s.heap) (hu : A.units + 100 < cLine) {c : Bool} (e : eqE w.params a b st = some c) (ha : VR ρ σ a x) (hb : VR ρ σ b y) : EqA A s x y c := by
  obtain ⟨g, m, os, F⟩ := F
  refine i_or (fun e => emC_ok hu XB F e ha hb) (fun e => i_ob (fun _ e h1 => i_ob (fun _ e h2 => ?_) e) e) e
  obtain ⟨d, as, r1, r2, r3, r4⟩ := rd_ok XB F h1 ha
  obtain ⟨d', bs, k1, k2, k3, k4⟩ := rd_ok XB F h2 hb
  have r2 := sh_ok r2 r3 (by decide)
  have k2 := sh_ok k2 k3 (by decide)
  have key := eqV_ok F.bd _ _ _ _ _ e r4 k4
  exact ⟨fun {Q X} k => eq_dataH r1 k1 r2 k2 (Nat.lt_of_le_of_lt (Nat.add_le_add_left (by decide) _) hu) (by rw [key]; exact k), fun {Q X} k => ne_dataH r1 k1 r2 k2 (Nat.lt_of_le_of_lt (Nat.add_le_add_left (by decide) _) hu) (by rw [key]; exact k)⟩
theorem eachC_spec {f : St → Option Bool} {l : List (RR × St)} : ∀ {outs : List (RR × St)}, eachC f l = some outs → ∀ o ∈ l, ∃ c, f o.2 = some c ∧ bOut c o.2 ∈ outs := by
  induction l with
  | nil => intro _ _ _ hm; cases hm
  | cons q l ih =>
    intro outs e o hm
    refine i_ob (fun c e hc => i_ob (fun l' e hl => ?_) e) e
    cases e
    rcases List.mem_cons.mp hm with rfl | hm
    · exact ⟨c, hc, .head _⟩
    · obtain ⟨c', h1, h2⟩ := ih hl o hm
      exact ⟨c', h1, .tail _ h2⟩
/-- a comparison's outcome, found -/
inductive TryAt (Γ : FC) (outs : List (RR × St)) (ρ : List Addr) (σ : List Int) (h : Heap) (f : St → Option Bool) : Prop
  | mk (st' : St) (c : Bool) (F : FS Γ st' ρ σ h) (hf : f st' = some c) (K : Forked Γ outs ρ σ h c)
theorem tryC_ok {f : St → Option Bool} (e : tryC w.params f a b st = some outs) (F : FS Γ st ρ σ h) : TryAt Γ outs ρ σ h f :=
  i_or (fun e => i_ob (fun c e hc => ⟨st, c, F, hc, okb_ok e F⟩) e) (fun e => i_ob (fun q e _ => i_ob (fun l e hl => by
    obtain ⟨_, _, c', _, st', hm, F'⟩ := forkT_any hl F
    obtain ⟨c, h1, h2⟩ := eachC_spec e _ hm
    exact ⟨st', c, F', h1, st', h2, F'⟩) e) e) e
theorem dataC_ok (XB : (hd.heap_1 w.params).In base) {op : CmpOp} (hu : A.units + 100 < cLine) (e : dataC w.params op a b st = some outs) (ha : VR ρ σ a x) (hb : VR ρ σ b y) (F : FS Γ st ρ σ s.heap) (P : Post relE Γ ρ σ s outs Q X) :
    wpAny (model prg w) A (compareOp op x y) Q X s := by
  have inn : ∀ {f : Bool → Outs}, ob (inC w.params st a b) f = some outs → ∃ ds d as bs c, Reads s.heap y (.tuple ds) as ∧ Reads s.heap x d bs ∧ PyData.canLayAll0 ds = true ∧ d.canLay0 = true ∧ d.depth ≤ 4 ∧ ds.any (fun y => PyData.eqv y d) = c ∧ f c = some outs := fun {f} e => by
    obtain ⟨g, m, os, F⟩ := F
    refine i_ob (fun c e9 hc => i_ob (fun _ e h1 => i_ob (fun _ e h2 => i_ob (fun q e hs => i_gd (fun e z => ?_) e) e) e) hc) e
    obtain ⟨d, as, r1, r2, r3, r4⟩ := rd_ok XB F h1 ha
    obtain ⟨d', bs, k1, k2, k3, k4⟩ := rd_ok XB F h2 hb
    obtain ⟨ds, rfl, hds⟩ := k4.seq hs
    rw [z] at k1 k2
    exact ⟨ds, d, bs, as, c, k1, r1, by simpa only [cond, PyData.canLay0] using k2, r2, r3, inV_ok F.bd r4 e hds, e9⟩
  have small : ∀ {ds : List PyData} {d : PyData}, d.depth ≤ 4 → A.units + (min (PyData.depthAll ds) d.depth + 32) < cLine := fun {ds d} h => Nat.lt_of_le_of_lt (Nat.add_le_add_left (Nat.add_le_add_right (Nat.le_trans (Nat.min_le_right _ _) h) 32) _) (Nat.lt_of_le_of_lt (Nat.add_le_add_left (by decide) _) hu)
  cases op <;> first | exact dead e | skip
  case Eq =>
    obtain ⟨st', c, F', hf, K⟩ := tryC_ok e F
    exact (eqE_ok XB F' hu hf ha hb).eq (K.post P)
  case NotEq =>
    obtain ⟨st', c, F', hf, K⟩ := tryC_ok e F
    exact i_ob (fun c' z hf9 => by cases z; exact (eqE_ok XB F' hu hf9 ha hb).ne (K.post P)) hf
  case In =>
    obtain ⟨ds, d, as, bs, c, r1, r2, r3, r4, r5, r6, e9⟩ := inn e
    refine PySem.SeqAt.in_tuple_reads r1 r2 r3 r4 ?_ ?_
    · have := Nat.min_le_right (PyData.depthAll ds) d.depth
      omega
    · rw [r6]; exact (okb_ok e9 F).post P
  case NotIn =>
    obtain ⟨ds, d, as, bs, c, r1, r2, r3, r4, r5, r6, e9⟩ := inn e
    refine PySem.SeqAt.notIn_tuple_reads r1 r2 r3 r4 ?_ ?_
    · have := Nat.min_le_right (PyData.depthAll ds) d.depth
      omega
    · rw [r6]; exact (okb_ok e9 F).post P
theorem notNone_ok (h : notNone a = true) (ha : VR ρ σ a x) : x ≠ .none := by
  cases a
  case none => cases h
  case bool => cases ha; exact Value.noConfusion
  case int => obtain ⟨_, _, rfl, _⟩ := ha; exact Value.noConfusion
  case str => obtain ⟨_, rfl⟩ := ha; exact Value.noConfusion
  case bytes => obtain ⟨_, _, rfl, _⟩ := ha; exact Value.noConfusion
  case own => obtain ⟨_, _, rfl⟩ := ha; exact Value.noConfusion
  case imm u => intro z; cases ha; subst z; cases h
theorem isK_ok {op : CmpOp} {c : Bool} (e : isK op c st = some outs) (F : FS Γ st ρ σ s.heap) (P : Post relE Γ ρ σ s outs Q X) (k1 : Q (.bool c) s → wpAny (model prg w) A (compareOp .Is x y) Q X s) (k2 : Q (.bool !c) s → wpAny (model prg w) A (compareOp .IsNot x y) Q X s) : wpAny (model prg w) A (compareOp op x y) Q X s := by
  cases op <;> first | exact dead e | exact k1 ((okb_ok e F).post P) | exact k2 ((okb_ok e F).post P)
theorem eqK_ok {op : CmpOp} {c : Bool} (e : eqK op c st = some outs) (F : FS Γ st ρ σ s.heap) (P : Post relE Γ ρ σ s outs Q X) (k1 : Q (.bool c) s → wpAny (model prg w) A (compareOp .Eq x y) Q X s) (k2 : Q (.bool !c) s → wpAny (model prg w) A (compareOp .NotEq x y) Q X s) : wpAny (model prg w) A (compareOp op x y) Q X s := by
  cases op <;> first | exact dead e | exact k1 ((okb_ok e F).post P) | exact k2 ((okb_ok e F).post P)
theorem inB_ok {op : CmpOp} {c : Bool} (e : isIn op = true) (k : ∀ tk, Q (.bool (inB op c)) { s with toks := tk }) (k1 : (∀ tk, Q (.bool c) { s with toks := tk }) → wpAny (model prg w) A (compareOp .In x y) Q X s) (k2 : (∀ tk, Q (.bool !c) { s with toks := tk }) → wpAny (model prg w) A (compareOp .NotIn x y) Q X s) : wpAny (model prg w) A (compareOp op x y) Q X s := by
  cases op <;> first | exact k1 k | exact k2 k | exact Bool.noConfusion e
theorem cmpBytes_ok {op : CmpOp} (e : cmpBytes op a b st = some outs) (ha : VR ρ σ a x) (hb : VR ρ σ b y) (F : FS Γ st ρ σ s.heap) (P : Post relE Γ ρ σ s outs Q X) : wpAny (model prg w) A (compareOp op x y) Q X s :=
  ha.onBytes e fun l b1 t e hl => hb.onBytes e fun l' b2 u e hl' => i_ob (fun c e hc => by
    have hq := eqDs_ok F.toBd hl hl' hc
    refine eqK_ok e F P (fun k => ?_) fun k => ?_
    · (with_reducible refine BB.eq_dec rfl rfl ?_)
      rw [hq]; exact k
    · (with_reducible refine ne_bytes ?_)
      rw [BB.ints_ne rfl rfl, show decide (KBw.bInts b1 ≠ KBw.bInts b2) = !c by rw [← hq]; exact decide_not]; exact k) e
theorem cmpNone_ok {op : CmpOp} (e : cmpNone op a b st = some outs) (ha : VR ρ σ a x) (hb : VR ρ σ b y) (F : FS Γ st ρ σ s.heap) (P : Post relE Γ ρ σ s outs Q X) : wpAny (model prg w) A (compareOp op x y) Q X s := by
  refine hb.onNone e fun e => ?_
  refine i_or (fun e => ?_) (fun e => i_gd (fun e q => ?_) e) e
  · exact ha.onNone e fun e => isK_ok e F P is_none_none isnot_none_none
  · exact isK_ok e F P (is_none_ne (notNone_ok q ha)) (isnot_none_ne (notNone_ok q ha))
theorem cmpIn_ok (XB : (hd.heap_1 w.params).In base) {op : CmpOp} (e : cmpIn w.params op a b st = some outs) (ha : VR ρ σ a x) (hb : VR ρ σ b y) (F : FS Γ st ρ σ s.heap) (P : Post relE Γ ρ σ s outs Q X) : wpAny (model prg w) A (compareOp op x y) Q X s := by
  refine i_gd (fun e q => ?_) e
  refine ha.onInt e fun k n t e hk => i_ob (fun xs e hx => i_ob (fun ns e hns => ?_) e) e
  obtain ⟨g, m, os, F'⟩ := id F
  refine F'.tupOf XB hb hx fun a vs ht hvs => ?_
  have hi : IntsAre vs.toArray.toList ns := isInts_ok hns hvs
  have key : Forked Γ outs ρ σ s.heap (inB op (ns.any (· == n))) := i_or (fun e => hk.onLit e fun e => okb_ok e F) (fun e => hk.onTab e fun i vs d e h1 h2 h3 => forkT_ok e F h1 fun b q => by
    rw [List.getElem?_map, h3] at q
    exact (Option.some.inj q).symm) e
  exact inB_ok q (key.post' P) (fun k => in_tuple_ints ht hi (k s.toks)) fun k => notin_tuple_ints ht hi (k s.toks)
@[elab_as_elim] theorem FSx.onIdict {β : Type} {q : β} (F : FSx Γ st ρ σ h g m os) {f : Nat → List (Int × SV) → Option β} (ha : VR ρ σ a x) (e : onIdict st a f = some q) (k : ∀ j es d o kvs, f j es = some q → ρ[j]? = some d → os[j]? = some o → (d, o) ∈ ρ.zip os ++ Γ.extra → (d == sysModules) = false → (∀ prog w, o.IsDictOf (intKind prog w) kvs) → F2 (KR ρ σ) es kvs → motive (.ref d)) : motive x :=
  F.onObj ha e fun j so d o e hd hi ho hm r => i_oIdict (fun i es e z => i_gd (fun e9 q => by
    subst z
    cases Nat.eq_of_beq_eq_true q
    obtain ⟨⟨d', hd', hn⟩, kvs, h1, h2⟩ := r
    cases hd.symm.trans hd'
    exact k _ es d o kvs e9 hd ho hm (beq_eq_false_iff_ne.mpr hn) h1 h2) e) e
inductive GetR (ρ : List Addr) (σ : List Int) : Option SV → Option Value → Prop
  | none : GetR ρ σ none none
  | some {v : SV} {x : Value} : VR ρ σ v x → GetR ρ σ (some v) (some x)
theorem GetR.isSome {a : Option SV} {b : Option Value} (h : GetR ρ σ a b) : a.isSome = b.isSome := by cases h <;> rfl
theorem getI_ok {n : Int} {es : List (Int × SV)} {kvs : List (Int × Value)} (h : F2 (KR ρ σ) es kvs) : GetR ρ σ (getI n es) (valueAt kvs n) := by
  induction h with
  | nil => exact .none
  | @cons p q es kvs hp _ ih =>
    unfold valueAt
    rw [List.find?_cons]
    by_cases e : q.1 = n
    · rw [decide_eq_true e]
      show GetR ρ σ (cnd (decide (p.1 = n)) (some p.2) (getI n es)) (some q.2)
      rw [decide_eq_true (hp.1.trans e)]
      exact .some hp.2
    · rw [decide_eq_false e]
      show GetR ρ σ (cnd (decide (p.1 = n)) (some p.2) (getI n es)) (valueAt kvs n)
      rw [decide_eq_false fun z => e (hp.1.symm.trans z)]
      exact ih
theorem cmpId_ok {op : CmpOp} (e : cmpId op a b st = some outs) (ha : VR ρ σ a x) (hb : VR ρ σ b y) (F : FS Γ st ρ σ s.heap) (P : Post relE Γ ρ σ s outs Q X) : wpAny (model prg w) A (compareOp op x y) Q X s := by
  refine i_gd (fun e q => ?_) e
  obtain ⟨g, m, os, F'⟩ := id F
  refine F'.onIdict hb e fun j es d o kvs e hd ho hm hn hD hk => ?_
  refine ha.onInt e fun k n t e hn' => hn'.onLit e fun e => ?_
  have hget := (getI_ok (n := n) hk).isSome
  rw [hget] at e
  exact inB_ok q ((okb_ok e F).post' P) (fun k => wpAny_in_of (intKind_is _ _ _ _) hn (kda_dict F'.N hm (hD _ _)).mapOf (k _)) fun k => wpAny_notIn_of (intKind_is _ _ _ _) hn (kda_dict F'.N hm (hD _ _)).mapOf (k _)
theorem cmpop_ok (hu : A.units + 100 < cLine) (XB : (hd.heap_1 w.params).In base) {op : CmpOp} (e : cmpop w.params op a b st = some outs) (ha : VR ρ σ a x) (hb : VR ρ σ b y) (F : FS Γ st ρ σ s.heap) (P : Post relE Γ ρ σ s outs Q X) :
    wpAny (model prg w) A (compareOp op x y) Q X s := by
  refine i_or (fun e => ?_) (fun e => i_or (fun e => cmpBytes_ok e ha hb F P) (fun e => i_or (fun e => cmpNone_ok e ha hb F P) (fun e => i_or (fun e => cmpIn_ok XB e ha hb F P) (fun e => i_or (fun e => cmpId_ok e ha hb F P) (fun e => dataC_ok XB hu e ha hb F P) e) e) e) e) e
  refine ha.onInt e fun n i t e hn => ?_
  exact hb.onInt e fun k j u e hk => cmpF_ok e hn hk F P
theorem F2.ne {α β : Type} {R : α → β → Prop} {a : α} {l r : List α} {m : List β} (h : F2 R l m) (e : l = a :: r) : m ≠ [] := fun z => by subst z e; cases h
theorem seqAdd_ok (XB : (hd.heap_1 w.params).In base) (e : seqAdd w.params st a b = some outs) (ha : VR ρ σ a x) (hb : VR ρ σ b y) (F : FS Γ st ρ σ s.heap) (P : Post relE Γ ρ σ s outs Q X) :
    wpAny (model prg w) A (binaryOp .Add x y) Q X s := by
  obtain ⟨g, m, os, F'⟩ := id F
  have va := ha
  have vb := hb
  refine i_ob (fun xs e hx => i_ob (fun ys e hy => i_gd (fun e hz => ?_) e) e) e
  revert va vb
  refine F'.tupOf XB ha hx fun a1 vs t1 h1 => ?_
  refine F'.tupOf XB hb hy fun a2 us t2 h2 => fun va vb => ?_
  have hz9 : vs.length + us.length ≤ 16384 := by rw [← h1.length, ← h2.length]; exact Nat.le_trans (Nat.le_of_ble_eq_true hz) (by decide)
  refine i_or (fun e => i_l0 (fun e z => ?_) e) (fun e => i_lc (fun p r e z0 => i_or (fun e => i_l0 (fun e z => ?_) e) (fun e => i_lc (fun p' r' e z' => ?_) e) e) e) e
  · subst z; cases h1
    exact kde_addT0 F'.F F'.N t1 t2 rfl hz9 (post_v e P F vb s.toks)
  · have z0 := h1.ne z0
    subst z; cases h2
    exact kde_addT1 F'.F F'.N t1 t2 z0 rfl hz9 (post_v e P F va s.toks)
  · exact kde_addT F'.F F'.N t1 t2 (h1.ne z0) (h2.ne z') hz9 rfl fun D h' FF NN lo => post_fresh e P F' FF NN lo ⟨_, rfl, VRs.mono (List.prefix_append _ _) (List.prefix_refl _) (h1.append h2)⟩ s.toks
theorem mulOk_ok {n : Int} {xs : List SV} (h : mulOk n xs = true) : 1 < n ∧ n ≤ 100 ∧ xs ≠ [] ∧ xs.length * n.toNat ≤ 1000 := by
  unfold mulOk at h
  rw [Bool.and_eq_true, Bool.and_eq_true] at h
  obtain ⟨⟨h1, h2⟩, h3⟩ := h
  obtain ⟨h1, h4⟩ := of_decide_eq_true h1
  exact ⟨h1, h4, fun z => by (subst z; cases h2), Nat.le_of_ble_eq_true h3⟩
theorem seqMul_ok (e : seqMul st a b = some outs) (ha : VR ρ σ a x) (hb : VR ρ σ b y) (F : FS Γ st ρ σ s.heap) (P : Post relE Γ ρ σ s outs Q X) :
    wpAny (model prg w) A (binaryOp .Mult x y) Q X s := by
  obtain ⟨g, m, os, F'⟩ := id F
  refine hb.onInt e fun k n u e hn => hn.onLit e fun e => ?_
  refine i_or (fun e => ?_) (fun e => ?_) e
  · refine F'.onTup ha e fun i xs a vs e hax hm hvs => i_gd (fun e q => ?_) e
    obtain ⟨c0, c1, c2, c3⟩ := mulOk_ok q
    refine TM.mul F'.F F'.N hm c0 c1 ?_ (by rw [← hvs.length]; exact c3) rfl fun D h' FF NN lo => post_fresh e P F' FF NN lo ⟨_, rfl, VRs.mono (List.prefix_append _ _) (List.prefix_refl _) (rep_ok hvs _)⟩ s.toks
    cases hvs with
    | nil => exact absurd rfl c2
    | cons _ _ => rfl
  · refine F'.onList ha e fun i xs a vs n' e hax ho hm hvs => i_gd (fun e q => ?_) e
    rw [Bool.and_eq_true] at q
    obtain ⟨c0, c1, c2, c3⟩ := mulOk_ok q.1
    obtain ⟨l, hl⟩ := Option.isSome_iff_exists.mp q.2
    obtain ⟨ns, hi, _⟩ := allInts_ok hl hvs
    exact KM.mul F'.F F'.N (F'.N.isList hm) hi (by omega) (by omega) (by rw [← hvs.length]; omega) fun D h' FF NN lo _ _ _ _ _ _ => post_fresh e P F' FF NN lo ⟨_, 0, rfl, VRs.mono (List.prefix_append _ _) (List.prefix_refl _) (rep_ok hvs _)⟩ s.toks
theorem isMul_ok {op : Operator} (h : isMul op = true) : op = .Mult := by cases op <;> first | rfl | exact Bool.noConfusion h
theorem binop2_ok (XB : (hd.heap_1 w.params).In base) {op : Operator} (e : binop2 w.params op a b st = some outs) (ha : VR ρ σ a x) (hb : VR ρ σ b y) (F : FS Γ st ρ σ s.heap) (P : Post relE Γ ρ σ s outs Q X) :
    wpAny (model prg w) A (binaryOp op x y) Q X s :=
  i_or (fun e => binop_ok e ha hb F P) (fun e => i_or (fun e => i_gd (fun e q => by cases isAdd_ok q; exact seqAdd_ok XB e ha hb F P) e) (fun e => i_gd (fun e q => by cases isMul_ok q; exact seqMul_ok e ha hb F P) e) e) e
theorem truth_ok {v : SV} {x : Value} {c : Bool} {R : Bool → Shared → Prop} (e : truth v st = some c) (hv : VR ρ σ v x) (B : F2 BR st.bnd σ) (k : ∀ tk, R c { s with toks := tk }) : wpAny (model prg w) A (truthy x) R X s := by
  refine i_or (fun e => ?_) (fun e => i_or (fun e => ?_) (fun e => i_or (fun e => ?_) (fun e => ?_) e) e) e
  · exact hv.onBool e fun b e => by cases e; exact wpAny_truthy_bool (k s.toks)
  · exact hv.onNone e fun e => by cases e; exact PyProof.Rows.truthy_none (k s.toks)
  · refine hv.onInt e fun n i t e hn => i_ob (fun c' e hc => ?_) e
    cases e
    (with_reducible refine truthy_int ?_)
    rw [show (i != 0) = !c' from congrArg not (eqD_ok B hn (show SIR σ (.lit 0) 0 from rfl) hc)]; exact k s.toks
  · refine hv.onStr e fun b t e => i_gd (fun e q => ?_) e
    cases e
    exact PySem.P.truthy_str (Int.not_le.mpr (of_decide_eq_true q)) (k _)
end

end
-- W7
section
theorem dict_any {p p' : Program} {w w' : World} {o : Obj} {kvs : List (Int × Value)} (h : o.IsDictOf (PySem.intKind p w) kvs) : o.IsDictOf (PySem.intKind p' w') kvs := by
  obtain ⟨es, ep, h1, h2, h3, h4, h5⟩ := h
  refine ⟨es, ep, h1, h2, h3, ?_, h5⟩
  generalize es.toList = l at h4
  clear h5
  induction h4 with
  | nil => exact .nil
  | cons a b _ ih => exact .cons a b ih
theorem u8_lits {σ : List Int} {l : List UInt8} : F2 (SIR σ) (l.map fun c => SI.lit c.toNat) (KBw.bInts l.toArray) := by
  induction l with
  | nil => exact .nil
  | cons c l ih => exact .cons rfl ih
theorem zip_key {ρ : List Addr} {os : List Obj} {p : Addr × Obj} (h : p ∈ ρ.zip os) : p.1 ∈ ρ := (List.of_mem_zip (a := p.1) (b := p.2) h).1
theorem zip_upd {a : Addr} {o : Obj} {extra : List (Addr × Obj)} {ρ : List Addr} (hx : ∀ q ∈ extra, q.1 ≠ a) : ∀ {os : List Obj} {i : Nat}, ρ.Nodup → ρ[i]? = some a → os[i]? = some o → UpdF a o (ρ.zip os ++ extra) (fun o' => ρ.zip (os.set i o') ++ extra) := by
  induction ρ with
  | nil => intro os i _ ha; cases ha
  | cons b r ih =>
    intro os i hn ha ho
    have hn := List.nodup_cons.mp hn
    cases os with
    | nil => cases ho
    | cons c os =>
      cases i with
      | zero =>
        cases ha; cases ho
        exact .head fun p hp e => (List.mem_append.mp hp).elim (fun hp => hn.1 (e ▸ zip_key hp)) fun hp => hx p hp e
      | succ i => exact .tail (fun (e : b = a) => hn.1 (e ▸ List.mem_of_getElem? (i := i) ha)) (ih (i := i) hn.2 ha ho)
theorem toUpd {d : Addr} {o : Obj} (o' : Obj) {l : List (Addr × Obj)} {g : Obj → List (Addr × Obj)} (h : UpdF d o l g) : Upd d o o' l (g o') := by
  induction h with
  | head h => exact .head h
  | tail h _ ih => exact .tail h ih
noncomputable def tupLike (o : Obj) : Prop := o.cls = .type "tuple" ∧ ∃ vs n, o.data = .seq vs n
section
variable {Γ : FC} {st : St} {ρ : List Addr} {σ : List Int} {h g h' : Heap} {m : Str → Option Value} {os : List Obj}
theorem FSx.upd (F : FSx Γ st ρ σ h g m os) {i : Nat} {a : Addr} {o : Obj} (ha : ρ[i]? = some a) (ho : os[i]? = some o) : UpdF a o (ρ.zip os ++ Γ.extra) (fun o' => ρ.zip (os.set i o') ++ Γ.extra) :=
  zip_upd (fun q hq e => F.ap q hq (e ▸ List.mem_of_getElem? ha)) F.asc ha ho
theorem FSx.free (F : FSx Γ st ρ σ h g m os) {i : Nat} {o : Obj} (ho : os[i]? = some o) (hn : ¬ tupLike o) (hf : st.frz.contains i = false) : ∀ q ∈ Γ.fz, q.1 ≠ i := fun q hq e => by
  obtain ⟨h1, h2⟩ := F.Z q hq
  rw [e, ho] at h1
  rcases h2 with h2 | h2
  · exact hn (by rw [Option.some.inj h1]; exact h2)
  · rw [e] at h2
    have := List.contains_iff_mem.mpr h2
    rw [hf] at this; cases this
/-- an object, known better -/
theorem FSx.sym (F : FSx Γ st ρ σ h g m os) {i : Nat} {so : SO} {o : Obj} (ho : os[i]? = some o) (hor : OR ρ σ so o) : FSx Γ (st.setO i so) ρ σ h g m os := ⟨F.T, F.T0, F.B, F.D, F.F, F.N, F.O.setL ho hor, F.len, F.M, F.asc, F.ap, F.bd, F.sm, F.Mp, F.Z⟩
/-- an object, changed -/
theorem FSx.set (F : FSx Γ st ρ σ h g m os) {i : Nat} {so : SO} {o' : Obj} (F' : Fr g Γ.L h' m) (N' : News g Γ.L h' (ρ.zip (os.set i o') ++ Γ.extra)) (ho : OR ρ σ so o') (hz : ∀ q ∈ Γ.fz, q.1 ≠ i) :
    FSx Γ (st.setO i so) ρ σ h' g m (os.set i o') where
  T := F.T
  T0 := F.T0
  B := F.B
  D := F.D
  F := F'
  N := N'
  O := F.O.set ho
  len := by rw [List.length_set]; exact F.len
  M := F.M
  asc := F.asc
  ap := F.ap
  bd := F.bd
  sm := F.sm
  Mp := F.Mp
  Z := fun q hq => ⟨by rw [List.getElem?_set_ne (Ne.symm (hz q hq))]; exact (F.Z q hq).1, (F.Z q hq).2⟩
/-- a name, bound -/
theorem FSx.loc (F : FSx Γ st ρ σ h g m os) {x : Str} {v : SV} {a : Value} (hp : Γ.pin = none) (hv : VR ρ σ v a) (F' : Fr g Γ.L h' (fun y => if y = x then some a else m y)) (N' : News g Γ.L h' (ρ.zip os ++ Γ.extra)) :
    FSx Γ (st.bind x v) ρ σ h' g (fun y => if y = x then some a else m y) os where
  T := F.T
  T0 := F.T0
  B := F.B
  D := F.D
  F := F'
  N := N'
  O := F.O
  len := F.len
  M := fun y u e => by
    have e : ((x, v) :: st.loc).lookup y = some u := e
    rw [List.lookup_cons] at e
    by_cases q : y = x
    · rw [beq_iff_eq.mpr q] at e
      cases e
      exact ⟨a, if_pos q, hv⟩
    · rw [beq_eq_false_iff_ne.mpr q] at e
      obtain ⟨v', h1, h2⟩ := F.M y u e
      exact ⟨v', (if_neg q).trans h1, h2⟩
  asc := F.asc
  ap := F.ap
  bd := F.bd
  sm := F.sm
  Mp := fun m₀ e => by rw [hp] at e; cases e
  Z := F.Z
end
theorem isStr_eq {x y : Str} {t : Tok} : (Value.str x t).isStr y = (x == y) := rfl
/-- what a dict's entries tell -/
inductive FindR (ρ : List Addr) (σ : List Int) (ds : List DictEntry) (name : Str) : Option SV → Prop
  | none : getL name ds = some none → FindR ρ σ ds name none
  | some {x : SV} {v : Value} : getL name ds = some (some v) → VR ρ σ x v → FindR ρ σ ds name (some x)
theorem find_ok {ρ : List Addr} {σ : List Int} {name : Str} {es : List (Str × SV)} {ds : List DictEntry} (h : F2 (ER ρ σ) es ds) : (∀ x, es.lookup name = some x → ∃ d, ds.find? (·.key.isStr name) = some d ∧ VR ρ σ x d.val) ∧ (es.lookup name = none → ds.find? (·.key.isStr name) = none) ∧ ds.any (·.refKey) = false := by
  induction h with
  | nil => exact ⟨fun _ e => (nomatch e), fun _ => rfl, rfl⟩
  | @cons a d l m hd hr ih =>
    obtain ⟨n, v⟩ := a
    obtain ⟨⟨t, hk⟩, hv⟩ := hd
    obtain ⟨h1, h2, h3⟩ := ih
    have h4 : (d :: m).any (·.refKey) = false := by
      rw [List.any_cons, h3, Bool.or_false]
      unfold DictEntry.refKey
      rw [hk]
    rw [List.lookup_cons, List.find?_cons, hk, isStr_eq]
    by_cases q : name = n
    · rw [beq_iff_eq.mpr q, beq_iff_eq.mpr (Eq.symm q : n = name)]
      exact ⟨fun x e => ⟨d, rfl, Option.some.inj e ▸ hv⟩, fun e => (nomatch e), h4⟩
    · rw [beq_eq_false_iff_ne.mpr q, beq_eq_false_iff_ne.mpr (Ne.symm q : n ≠ name)]
      exact ⟨h1, h2, h4⟩
theorem getL_ok {ρ : List Addr} {σ : List Int} {name : Str} {es : List (Str × SV)} {ds : List DictEntry} (h : F2 (ER ρ σ) es ds) : FindR ρ σ ds name (es.lookup name) := by
  obtain ⟨h1, h2, h3⟩ := find_ok (name := name) h
  cases q : es.lookup name with
  | none => exact .none (by unfold getL; rw [h2 q, h3]; rfl)
  | some x => obtain ⟨d, h4, h5⟩ := h1 x q; exact .some (by unfold getL; rw [h4]) h5
noncomputable def handedV (x : SV) : Bool := SV.rec true (fun _ => true) (fun _ => true) (fun _ => true) (fun _ => true) (fun _ => true) handedIn x
theorem handed_ok {ρ : List Addr} {σ : List Int} {x : SV} {v : Value} (h : VR ρ σ x v) (hi : handedV x = true) : handedIn v = true := by
  cases x
  case none => cases h; rfl
  case bool => cases h; rfl
  case int => obtain ⟨_, _, rfl, _⟩ := h; rfl
  case str => obtain ⟨_, rfl⟩ := h; rfl
  case bytes => obtain ⟨_, _, rfl, _⟩ := h; rfl
  case own => obtain ⟨_, _, rfl⟩ := h; rfl
  case imm u => cases h; exact hi
section
variable (P : Params)
noncomputable def attrV (st : St) (v : SV) (name : Str) : Option SV := onInst st v fun _ C _ es => gd (plainGet (hd.heap_1 P) C name && hasDictIn (hd.heap_1 P) C) (ob (findIn (hd.heap_1 P) (.ref C) name) fun attr => gd (noGet (hd.heap_1 P) attr) (ob (es.lookup name) fun x => gd (handedV x) (some x)))
noncomputable def fromTo (a : Nat) (k : Nat) : List Nat := Nat.rec (fun _ => []) (fun _ ih a => a :: ih (a + 1)) k a
noncomputable def itemL (xs : List SV) (k : SI) (st : St) : Outs := ob (asLit st k) fun n => gd (decide (0 ≤ n)) (ob xs[n.toNat]? fun v => okv v st)
noncomputable def itemT (xs : List SV) (k : SI) (st : St) : Outs := iAt k fun i => ob st.bnd[i]? fun b => ob b.1 fun lo => ob b.2.1 fun hi => gd (decide (0 ≤ lo) && decide (hi < xs.length))
  (orE (ob (isInts xs) fun ns => okv (.int (normT i ns)) (setB st i (some lo, some hi, some (Option.rec (fromTo lo.toNat (hi.toNat + 1 - lo.toNat)) (fun D => D) b.2.2)))) (some (((xs.drop lo.toNat).take (hi.toNat + 1 - lo.toNat)).map fun v => (.val v, st))))
noncomputable def itemV (xs : List SV) (k : SI) (st : St) : Outs := gd (Nat.ble xs.length 1000) (orE (itemL xs k st) (itemT xs k st))
noncomputable def subBytes (v i : SV) (st : St) : Outs := onInt i fun k => onBytes v fun l => ob (asLit st k) fun n => gd (decide (0 ≤ n ∧ n < l.length ∧ l.length ≤ 16777216)) (ob l[n.toNat]? fun x => okv (.int x) st)
noncomputable def subKinds (v i : SV) (st : St) : Outs := onStr i fun x => onRef v fun a => gd (Nat.beq a 78) (ob (nsIn (hd.heap_1 P) 78 x) fun r => ob r fun u => ob (ofK u) fun r => okv r st)
/-- an item of a list of numbers, of which the length is known -/
noncomputable def subNuml (v i : SV) (st : St) : Outs := onInt i fun k => iLit k fun n => onObj st v fun _ o => oNuml o fun c => ob c fun j => ob st.bnd[j]? fun b => ob b.1 fun lo => gd (decide (0 ≤ n) && decide (n < lo)) (some [(.val (.int (.at st.bnd.length)), st.addB (none, none, none))])
noncomputable def subV (v i : SV) (st : St) : Outs := orE (onInt i fun k => onTup st v fun _ xs => itemV xs k st) (orE (onInt i fun k => onList st v fun _ xs => itemV xs k st) (orE (subBytes v i st) (orE (onInt i fun k => iLit k fun n => onIdict st v fun _ es => ob (getI n es) fun u => okv u st) (orE (subKinds P v i st) (subNuml v i st)))))
noncomputable def partS (st : St) (len d : Nat) (v : SV) : Option Nat := orE (onNone v (some d)) (onInt v fun n => ob (asLit st n) fun k => some (clipAt len k))
noncomputable def sliceB (st : St) (l : List SI) (lo hi : SV) : Option (List SI) := ob (partS st l.length 0 lo) fun a => ob (partS st l.length l.length hi) fun b => some ((l.drop a).take (b - a))
noncomputable def sliceY (st : St) (v lo hi : SV) : Outs := onBytes v fun ks => gd (Nat.ble ks.length 16777216) (ob (sliceB st ks lo hi) fun r => okv (.bytes r) st)
/-- a list's first items -/
noncomputable def sliceL (v l h : SV) (st : St) : Outs := onNone l (onInt h fun k => onList st v fun _ xs => ob (isInts xs) fun ns => gd (Nat.ble xs.length 1000) (litF st k fun n st1 => gd (decide (0 ≤ n)) (newO (.list ((ns.take n.toNat).map fun z => .int (.lit z))) st1)))
/-- a method that an object calls -/
noncomputable def methI (st : St) (v : SV) (name : Str) : Option SV := onInst st v fun _ C _ es => ob (findIn (hd.heap_1 P) (.ref C) name) fun r => ob r fun u => vRef u fun f => gd (plainGet (hd.heap_1 P) C name && isFn (hd.heap_1 P) (.ref f) && (es.lookup name).isNone) (some (.imm (.ref f)))
noncomputable def methL (st : St) (v : SV) (name : Str) : Option SV := onList st v fun _ _ => gd (decide (name = "append")) (some (.imm (.builtin "list.append")))
noncomputable def methB (v : SV) (name : Str) : Option SV := onBytes v fun _ => gd (decide (name = "join")) (some (.imm (.builtin "bytes.join")))
noncomputable def methV (st : St) (v : SV) (name : Str) : Option SV := orE (methI P st v name) (orE (methL st v name) (methB v name))
noncomputable def clsVal (r : CFound) : Option Value := match r with
  | .val v => some v
  | _ => none
/-- a method that a built-in type calls -/
noncomputable def methT (v : SV) (name : Str) : Option SV := onImm v fun u => vType u fun T => gd (decide (T = "Exception")) (ob (findCls (hd.heap_1 P) (.type T) (.type "type") name) fun r => ob (clsVal r) fun u => vBlt u fun b => gd (handedIn (.builtin b)) (some (.imm (.builtin b))))
noncomputable def callable (f : SV) (none_ : Bool) : Option Unit := orE (onRef f fun a => gd (keepIn (hd.heap_1 P) (.ref a)) (some ())) (onImm f fun u => gd (!none_) (orE (vBlt u fun _ => some ()) (vType u fun _ => some ())))
end
section
variable {A : Around} {Γ : FC} {st : St} {ρ : List Addr} {σ : List Int} {s : Shared} {Q : Value → Shared → Prop} {X : Value → Shared → Prop} {outs : List (RR × St)} {g h : Heap} {m : Str → Option Value} {os : List Obj} {M : Model}
theorem attr_ok (XB : (hd.heap_1 w.params).In base) {v x : SV} {name : Str} {a : Value} {b : Bool} (e : attrV w.params st v name = some x) (hv : VR ρ σ v a) (F : FS Γ st ρ σ s.heap) (k : ∀ y tk, VR ρ σ x y → Q y { s with toks := tk }) : wpAny (model prg w) A (getAttr a name b) Q X s := by
  obtain ⟨g, m, os, F⟩ := F
  refine F.onInst hv e fun i C d es a da ds n e _ _ hm hm2 hes => i_gd (fun e h1 => i_ob (fun attr e h2 => i_gd (fun e h3 => i_ob (fun u e hu => i_gd (fun e hh => ?_) e) e) e) e) e
  cases e
  rw [Bool.and_eq_true] at h1
  have key := getL_ok (name := name) hes
  rw [hu] at key
  cases key with
  | some hy hyr => with_reducible exact get_own F.F (F.In XB) (InstAt.of_news F.N hm hm2) h1.1 h1.2 h2 h3 hy (handed_ok hyr hh) (k _ _ hyr)
theorem sub_eq {i : PySem.Expr} (hi : ∀ lo hi p, i ≠ .Slice lo hi none p) {o x : Value} : subscripted i false o x = operate [o, x] (getItem o x) := by
  cases i <;> first | rfl | skip
  rename_i a b c p
  cases c with
  | none => exact absurd rfl (hi _ _ _)
  | some _ => rfl
theorem letgo_bytes {v : PySem.Expr} {b : Array UInt8} {t : Tok} : ∀ r, letTemporaryGo v (.bytes b t) r = pure () := fun r => by cases v <;> rfl
theorem kinds_lit (P : Params) : ∃ es n, List.lookup 78 (hd.heap_1 P) = some { cls := .type "dict", data := .dict es n } ∧ KeysLit P es.toList := ⟨_, _, rfl, ⟨_, _, rfl, rfl⟩, ⟨_, _, rfl, rfl⟩, ⟨_, _, rfl, rfl⟩, trivial⟩
theorem fromTo_mem {k : Nat} : ∀ {a d : Nat}, a ≤ d → d < a + k → d ∈ fromTo a k := by
  induction k with
  | zero => intro a d h1 h2; exact absurd h2 (Nat.not_lt.mpr h1)
  | succ k ih =>
    intro a d h1 h2
    rcases Nat.eq_or_lt_of_le h1 with q | q
    · subst q; exact .head _
    · exact .tail _ (ih q (by rw [Nat.succ_add]; exact h2))
theorem lt_span {i a b : Nat} (h1 : a ≤ i) (h2 : i ≤ b) : i < a + (b + 1 - a) := by rw [Nat.add_sub_cancel' (Nat.le_trans h1 (Nat.le_succ_of_le h2))]; exact Nat.lt_succ_of_le h2
theorem pick_mem {α : Type} {xs : List α} {i a b : Nat} (h : i < xs.length) (h1 : a ≤ i) (h2 : i ≤ b) : xs[i] ∈ (xs.drop a).take (b + 1 - a) := by
  rw [List.mem_take_iff_getElem]
  refine ⟨i - a, Nat.lt_min.mpr ⟨Nat.sub_lt_sub_right h1 (Nat.lt_succ_of_le h2), by rw [List.length_drop]; exact Nat.sub_lt_sub_right h1 h⟩, ?_⟩
  rw [List.getElem_drop]
  simp only [Nat.add_sub_cancel' h1]
theorem ints_get {xs : List SV} : ∀ {vs : List Value} {ns : List Int} {k : Nat} {y : Value}, isInts xs = some ns → F2 (VR ρ σ) xs vs → vs[k]? = some y → ∃ z t, y = .int z t ∧ ns[k]? = some z := by
  induction xs with
  | nil => intro vs ns k y e h hy; cases h; cases hy
  | cons x r ih =>
    intro vs ns k y e h hy
    cases h with
    | cons hx hr =>
      revert hy
      refine hx.onInt e fun n z t e hn => hn.onLit e fun e => i_ob (fun l e hl => fun hy => ?_) e
      cases e
      cases k with
      | zero => cases hy; exact ⟨_, _, rfl, rfl⟩
      | succ k => exact ih (k := k) hl hr hy
/-- an item, picked -/
inductive ItemAt (xs : List SV) (vs : List Value) (i : Int) (K : Value → Prop) : Prop
  | mk (v : Value) (h0 : 0 ≤ i) (h1 : i < xs.length) (hv : vs[i.toNat]? = some v) (hk : K v)
theorem itemL_ok {xs : List SV} {k : SI} {i : Int} {vs : List Value} (e : itemL xs k st = some outs) (hk : SIR σ k i) (hx : F2 (VR ρ σ) xs vs) (F : FS Γ st ρ σ s.heap) (P : Post relE Γ ρ σ s outs Q X) : ItemAt xs vs i fun v => Q v s :=
  i_ob (fun n e hn => i_gd (fun e q => i_ob (fun v e9 hv => by
    cases asLit_ok F.toBd hn hk
    obtain ⟨y, hy, hr⟩ := hx.get hv
    have q := of_decide_eq_true q
    exact ⟨y, q, (Int.toNat_lt q).mp (List.getElem?_eq_some_iff.mp hv).1, hy, post_v e9 P F hr s.toks⟩) e) e) e
theorem itemT_ok {xs : List SV} {k : SI} {i : Int} {vs : List Value} (e : itemT xs k st = some outs) (hk : SIR σ k i) (hx : F2 (VR ρ σ) xs vs) (F : FS Γ st ρ σ s.heap) (P : Post relE Γ ρ σ s outs Q X) : ItemAt xs vs i fun v => Q v s :=
  hk.onAt e fun j e hj => i_ob (fun b e hb => i_ob (fun lo e h1 => i_ob (fun hi e h2 => i_gd (fun e q => by
    obtain ⟨⟨b1, b2⟩, b3⟩ := bd_at F.toBd hb hj
    have b1 := b1 _ h1
    have b2 := b2 _ h2
    rw [Bool.and_eq_true] at q
    have p0 : 0 ≤ i := Int.le_trans (of_decide_eq_true q.1) b1
    have p1 : i < xs.length := Int.lt_of_le_of_lt b2 (of_decide_eq_true q.2)
    have hl : i.toNat < xs.length := (Int.toNat_lt p0).mpr p1
    obtain ⟨y, hy, hr⟩ := hx.get (List.getElem?_eq_getElem hl)
    refine ⟨y, p0, p1, hy, ?_⟩
    refine i_or (fun e => i_ob (fun ns e hns => ?_) e) (fun e => ?_) e
    · obtain ⟨z, t, rfl, hz⟩ := ints_get hns hx hy
      refine post_v e P ?_ (x := .int z t) ⟨z, t, rfl, normT_ok hj p0 hz⟩ s.toks
      obtain ⟨F1, F2', F3, FX⟩ := F
      refine ⟨F1, F2', F3, FX.refine hj ⟨.two b1 b2, fun D' e => ?_⟩⟩
      cases e
      cases qd : b.2.2 with
      | some D0 => exact b3 _ qd
      | none => exact ⟨i.toNat, fromTo_mem (Int.toNat_le_toNat b1) (lt_span (Int.toNat_le_toNat b1) (Int.toNat_le_toNat b2)), (Int.toNat_of_nonneg p0).symm⟩
    · cases e
      exact (P _ (List.mem_map_of_mem (f := fun v => (RR.val v, st)) (pick_mem hl (Int.toNat_le_toNat b1) (Int.toNat_le_toNat b2))) ρ σ s.heap s.toks (List.prefix_refl _) (List.prefix_refl _)).1 y hr F) e) e) e) e
theorem itemV_ok {xs : List SV} {k : SI} {i : Int} {vs : List Value} (e : itemV xs k st = some outs) (hk : SIR σ k i) (hx : F2 (VR ρ σ) xs vs) (F : FS Γ st ρ σ s.heap) (P : Post relE Γ ρ σ s outs Q X) : xs.length ≤ 1000 ∧ ItemAt xs vs i fun v => Q v s :=
  i_gd (fun e hz => ⟨Nat.le_of_ble_eq_true hz, i_or (fun e => itemL_ok e hk hx F P) (fun e => itemT_ok e hk hx F P) e⟩) e
theorem bytes_lt (b : Array UInt8) : ∀ k ∈ KBw.bInts b, 0 ≤ k ∧ k < 256 := fun k hk => by
  unfold KBw.bInts at hk
  obtain ⟨c, _, rfl⟩ := List.mem_map.mp hk
  exact ⟨Int.natCast_nonneg _, Int.ofNat_lt.mpr c.toNat_lt⟩
theorem subBytes_ok {value i : PySem.Expr} (hi : ∀ lo hi p, i ≠ .Slice lo hi none p) {v k : SV} {x y : Value} (e : subBytes v k st = some outs) (hv : VR ρ σ v x) (hk : VR ρ σ k y) (F : FS Γ st ρ σ s.heap) (P : Post relE Γ ρ σ s outs Q X) :
    wpAny (model prg w) A (subscriptTail value i x y) Q X s := by
  refine hk.onInt e fun n j u e hn => ?_
  refine hv.onBytes e fun l b t e hb => i_ob (fun n' e hn' => i_gd (fun e q => i_ob (fun z e9 hz => ?_) e) e) e
  cases asLit_ok F.toBd hn' hn
  have q := of_decide_eq_true q
  obtain ⟨c, hc, hr⟩ := hb.get hz
  (with_reducible refine KBw.item_K (ks := KBw.bInts b) rfl ?_ q.1 ?_ ?_ (sub_eq hi) letgo_bytes)
  · rw [← hb.length]; exact Nat.le_trans q.2.2 (by decide)
  · rw [← hb.length]; exact q.2.1
  · intro t' k' _ _
    rw [List.getD_eq_getElem?_getD, hc]
    exact post_v (v := .int z) e9 P F (x := .int c t') ⟨c, t', rfl, hr⟩ k'
theorem subNuml_ok {value i : PySem.Expr} (hi : ∀ lo hi p, i ≠ .Slice lo hi none p) {v k : SV} {x y : Value} (e : subNuml v k st = some outs) (hv : VR ρ σ v x) (hk : VR ρ σ k y) (F : FS Γ st ρ σ s.heap) (P : Post relE Γ ρ σ s outs Q X) :
    wpAny (model prg w) A (subscriptTail value i x y) Q X s := by
  obtain ⟨g, m, os, FX⟩ := F
  refine hk.onInt e fun n j u e hn => hn.onLit e fun e => ?_
  refine FX.onObj hv e fun i' so a o e ha hi' ho hm r => i_oNuml (fun c e z => i_ob (fun l e hl => i_ob (fun b e hb => i_ob (fun lo e h1 => i_gd (fun e9 q => ?_) e) e) e) e) e
  subst z
  cases e9
  rw [Bool.and_eq_true] at q
  obtain ⟨vs, n', rfl, hz, hv, hlen⟩ := r
  have q0 := of_decide_eq_true q.1
  have q1 : j < vs.length := Int.lt_of_lt_of_le (of_decide_eq_true q.2) ((bd_at FX.bd hb (hlen _ hl)).1.1 _ h1)
  have q2 := (Int.toNat_lt q0).mpr q1
  obtain ⟨c, t, hc⟩ := hv _ (List.getElem_mem q2)
  have hy : vs[j.toNat]? = some (.int c t) := by rw [List.getElem?_eq_getElem q2, hc]
  refine item_lst FX.N hm q0 (by omega) hy (sub_eq hi) ?_
  exact post_one P (ρ' := ρ) (σ' := σ ++ [c]) (List.prefix_refl _) (List.prefix_append _ _) (h' := s.heap) (tk' := s.toks) ⟨c, t, rfl, getLast_at FX.blen⟩ ⟨g, m, os, FX.letter ⟨⟨fun _ e => (nomatch e), fun _ e => (nomatch e)⟩, fun D e => nomatch e⟩⟩
theorem subV_ok (XB : (hd.heap_1 w.params).In base) {value i : PySem.Expr} (hi : ∀ lo hi p, i ≠ .Slice lo hi none p) {v k : SV} {x y : Value} (e : subV w.params v k st = some outs) (hv : VR ρ σ v x) (hk : VR ρ σ k y) (F : FS Γ st ρ σ s.heap) (P : Post relE Γ ρ σ s outs Q X) :
    wpAny (model prg w) A (subscriptTail value i x y) Q X s := by
  obtain ⟨g, m, os, FX⟩ := id F
  refine i_or (fun e => ?_) (fun e => i_or (fun e => ?_) (fun e => i_or (fun e => subBytes_ok hi e hv hk F P) (fun e => i_or (fun e => ?_) (fun e => i_or (fun e => ?_) (fun e => subNuml_ok hi e hv hk F P) e) e) e) e) e
  · refine hk.onInt e fun n j u e hn => ?_
    refine FX.onTup hv e fun i' xs a vs e ha hm hvs => ?_
    obtain ⟨hz, y, z1, z2, hy, hq⟩ := itemV_ok e hn hvs F P
    (with_reducible refine item_tupleT (FX.N.isTup hm) ?_ ?_ (seqIndex_of z1 ?_) hy hq (sub_eq hi))
    · omega
    · omega
    · rw [← hvs.length]; exact z2
  · refine hk.onInt e fun n j u e hn => ?_
    refine FX.onList hv e fun i' xs a vs n' e ha ho hm hvs => ?_
    obtain ⟨hz, y, z1, z2, hy, hq⟩ := itemV_ok e hn hvs F P
    exact item_lst FX.N hm z1 (by omega) hy (sub_eq hi) hq
  · refine hk.onInt e fun n j u e hn => hn.onLit e fun e => ?_
    refine FX.onIdict hv e fun i' es d o kvs e hd ho hm hne hD hkv => i_ob (fun v e hg => ?_) e
    have key := getI_ok (n := j) hkv
    rw [hg] at key
    cases q : valueAt kvs j with
    | none => rw [q] at key; cases key
    | some y =>
      rw [q] at key
      cases key with
      | some h3 => exact tail_any (hD prg w |> kda_dict FX.N hm).typeIs PySem.slot_dict_getitem.lookup (wpAny_getItem_of (intKind_is _ _ _ _) (kda_dict FX.N hm (hD prg w)).mapOf q (post_v e P F h3 _)) (sub_eq hi)
  · refine hk.onStr e fun xs t e => ?_
    refine hv.onRef e fun a e => i_gd (fun e q => i_ob (fun r e hr => i_ob (fun u e9 hu => i_ob (fun r e8 hr' => ?_) e9) e) e) e
    cases Nat.eq_of_beq_eq_true q
    subst hu
    obtain ⟨es, n, h1, h2⟩ := kinds_lit w.params
    (with_reducible refine topItem_K FX.F (FX.In XB) h1 h2 hr ?_ (sub_eq hi))
    exact post_v e8 P F (ofK_ok hr') _
theorem isPart {v : SV} {x : Value} (B : F2 BR st.bnd σ) (h : VR ρ σ v x) {len : Nat} {a d : Nat} (e : partS st len d v = some a) : ∃ o, IsPart x o ∧ o.elim d (clipAt len) = a := by
  refine i_or (fun e => ?_) (fun e => ?_) e
  · exact h.onNone e fun e => ⟨none, .none, Option.some.inj e⟩
  · refine h.onInt e fun n y t e hn => i_ob (fun k e hk => ?_) e
    cases e
    cases asLit_ok B hk hn
    exact ⟨some _, .int _ _, rfl⟩
theorem sliceY_ok {v i : PySem.Expr} {a b c : SV} {x y z : Value} (e : sliceY st a b c = some outs) (ra : VR ρ σ a x) (rb : VR ρ σ b y) (rc : VR ρ σ c z) (F : FS Γ st ρ σ s.heap) (P : Post relE Γ ρ σ s outs Q X)
    (hs : ∀ o x : Value, subscripted i false o x = operate [x, o] (getItem o x)) : wpAny (model prg w) A (subscriptTail v i x (.ref s.heap.objs.size)) Q X { s with heap := s.heap.push { cls := .type "slice", data := .fields #[y, z, .none] } } := by
  obtain ⟨g, m, os, F3⟩ := F
  refine ra.onBytes e fun ks b' t e hb => i_gd (fun e hz => i_ob (fun r e hr => i_ob (fun aa hr ha => i_ob (fun bb hr hbb => ?_) hr) hr) e) e
  cases hr
  have hz := Nat.le_of_ble_eq_true hz
  obtain ⟨o1, p1, q1⟩ := isPart F3.bd rb ha
  obtain ⟨o2, p2, q2⟩ := isPart F3.bd rc hbb
  rw [hb.length] at hz q1 q2
  (with_reducible refine KBc.slice_K F3.F F3.N rfl p1 p2 hz ?_ (hs _ _) letgo_bytes)
  intro h' t' k' F' N' hI
  refine post_v (s := { s with heap := h' }) e P ⟨g, m, os, F3.moved F' N'⟩ ⟨_, _, rfl, ?_⟩ k'
  rw [hI, q1, q2]
  exact (hb.drop _).take _
theorem ints_F2 {vs : List Value} {ns : List Int} (h : IntsAre vs ns) : F2 (VR ρ σ) (ns.map fun z => .int (.lit z)) vs := by
  induction h with
  | nil => exact .nil
  | cons n t _ ih => exact .cons ⟨n, t, rfl, rfl⟩ ih
theorem sliceL_ok {v i : PySem.Expr} {a b c : SV} {x y z : Value} (e : sliceL a b c st = some outs) (ra : VR ρ σ a x) (rb : VR ρ σ b y) (rc : VR ρ σ c z) (F : FS Γ st ρ σ s.heap) (P : Post relE Γ ρ σ s outs Q X)
    (hs : ∀ o x : Value, subscripted i false o x = operate [x, o] (getItem o x)) : wpAny (model prg w) A (subscriptTail v i x (.ref s.heap.objs.size)) Q X { s with heap := s.heap.push { cls := .type "slice", data := .fields #[y, z, .none] } } := by
  obtain ⟨g, m, os, F0⟩ := id F
  refine rb.onNone e fun e => ?_
  refine rc.onInt e fun k n t e hk => ?_
  refine F0.onList ra e fun j xs ax vs n' e hax ho hm hvs => i_ob (fun ns e hns => i_gd (fun e hz => ?_) e) e
  obtain ⟨st', l, e', hsub, F', hoo, _⟩ := litF_ok e hk F
  refine i_gd (fun e' h0 => ?_) e'
  have h0 := of_decide_eq_true h0
  have hi := isInts_ok hns hvs
  have hl : s.heap.IsList ax vs.toArray := F0.N.isList hm
  have hsz : vs.toArray.size ≤ sizeLine := by rw [List.size_toArray, ← hvs.length]; exact Nat.le_trans (Nat.le_of_ble_eq_true hz) (by decide)
  obtain ⟨g, m, os, FX⟩ := F'
  refine tail_any (Heap.IsList.typeIs (s := { s with heap := s.heap.push { cls := .type "slice", data := .fields #[.none, .int n t, .none] } }) (hl.push _)) list_getitem_lookup
    (wpAny_getItem_list_slice (hl.push _) (Heap.IsSliceOf.new ..) .none (.int _ _) .none (by simp) ?_ hsz) (hs _ _)
  have N1 := News.push (FX.F.push { cls := .type "slice", data := .fields #[.none, .int n t, .none] }) (FX.N.grown fun _ _ e => Heap.get?_push_of_some _ e) { cls := .type "list", data := .seq (slicePick vs.toArray none (some n) none) } rfl
  refine post_fresh e' (P.sub hsub) FX ((FX.F.push _).push _) N1 (fun p hp => Nat.lt_of_lt_of_le (Heap.lt_size (FX.N p hp).1) (by show _ ≤ (s.heap.push _).objs.size; rw [Heap.size_push]; exact Nat.le_succ _)) ⟨(slicePick vs.toArray none (some n) none).toList, 0, by simp, ?_⟩ s.toks
  exact ints_F2 (slice_ints_uptoW hi h0)
theorem dict_new {h' : Heap} {d : Addr} {o : Obj} {g : Heap} {m : Str → Option Value} {os : List Obj} (e : newO (.idict st.objs.length []) st = some outs) (P : Post relE Γ ρ σ s outs Q X) (FX : FSx Γ st ρ σ s.heap g m os) (F' : Fr g Γ.L h' m) (N' : News g Γ.L h' ((d, o) :: (ρ.zip os ++ Γ.extra))) (lo : ∀ p ∈ ρ.zip os ++ Γ.extra, p.1 < d) (hm : (d == sysModules) = false) (hi : o.IsDictOf (PySem.intKind prg w) []) : Q (.ref d) { s with heap := h' } :=
  post_fresh e P FX F' N' lo ⟨⟨d, getLast_at (FX.O.length.trans FX.len.symm), beq_eq_false_iff_ne.mp hm⟩, [], fun _ _ => dict_any hi, .nil⟩ s.toks
end
noncomputable def notStar (e : PySem.Expr) : Bool := match e with
  | .Starred .. => false
  | _ => true
noncomputable def plainBase (e : PySem.Expr) : Bool := match e with
  | .Name .. => true
  | .Attribute .. => true
  | .Constant .. => true
  | .Subscript .. => true
  | _ => false
theorem star_cons {e : PySem.Expr} {r : List PySem.Expr} {env : Env} (h : notStar e = true) : starEach (e :: r) env = (false, eval e env) :: starEach r env := by
  cases e <;> first | rfl | cases h
theorem star_none {env : Env} {pos : Pos} {r : List PySem.Expr} (h : r.all notStar = true) : ((backTo pos (starEach r env)).any fun x => x.1) = false := by
  induction r with
  | nil => rfl
  | cons e r ih =>
    rw [List.all_cons, Bool.and_eq_true] at h
    rw [star_cons h.1]
    exact (Bool.false_or _).trans (ih h.2)
section
variable {A : Around} {Γ : FC} {st : St} {ρ : List Addr} {σ : List Int} {s : Shared} {Q : Value → Shared → Prop} {X : Value → Shared → Prop} {outs : List (RR × St)} {g h : Heap} {m : Str → Option Value} {os : List Obj} {M : Model} {env : Env}
theorem args_nil0 {f : Value} {pos : Pos} {K : Args → Shared → Prop} (h : wpAny M A (spliced (backTo pos (starEach [] env))) (fun vs s' => K ⟨vs, []⟩ s') X s) : wpAny M A (evalArgs f true [] []) K X s := by
  unfold evalArgs
  show wpAny M A (spliced [] >>= _) K X s
  refine wpAny_bind (wpAny_mono h (fun vs s' h' => ?_) fun _ _ x => x)
  refine wpAny_holding ?_
  exact wpAny_bind (wpAny_pure (wpAny_bind (wpAny_pure (wpAny_pure h'))))
theorem callW (XB : (hd.heap_1 w.params).In base) {fv : SV} {f : Value} {first : List Value} {es : List PySem.Expr} {pos : Pos} {u : Unit} (hf : VR ρ σ fv f) (hc : callable w.params fv es.isEmpty = some u) (h0 : first = [] ∨ ∀ n, f ≠ .type n) (hs : es.all notStar = true) (F : FS Γ st ρ σ s.heap)
    (k : wpAny (model prg w) A (spliced (backTo pos (starEach es env))) (fun vs s1 => (hd.heap_1 w.params).In s1.heap ∧ wpAny (model prg w) A (call f (first ++ vs)) Q X s1) X s) :
    wpAny (model prg w) A (callWith pos f first (backTo pos (starEach es env)) []) Q X s := by
  obtain ⟨g, m, os, F⟩ := F
  cases es with
  | nil =>
    revert k h0
    refine i_or (fun hc => ?_) (fun hc => i_onImm (fun u hc _ => dead hc) hc) hc
    refine hf.onRef hc fun a hc => i_gd (fun _ hk => fun _ k => ?_) hc
    exact callWith_of rfl (keeps_K hk) (args_nil0 k)
  | cons e es =>
    rw [List.all_cons, Bool.and_eq_true] at hs
    have k' : wpAny (model prg w) A (spliced (backTo pos (starEach (e :: es) env))) (fun vs s1 => wpAny (model prg w) A (call f (first ++ vs)) Q X s1) X s := wpAny_mono k (fun _ _ h => h.2) fun _ _ h => h
    revert k k' h0
    refine i_or (fun hc => ?_) (fun hc => ?_) hc
    · refine hf.onRef hc fun a hc => i_gd (fun _ hk => fun _ k _ => ?_) hc
      exact callWith_K (F.In XB) hk k (star_cons hs.1) (star_none hs.2)
    · refine hf.onImm hc fun hc _ => i_gd (fun hc _ => i_or (fun hc => i_vBlt (fun n _ z => ?_) hc) (fun hc => i_vType (fun n _ z => ?_) hc) hc) hc
      · subst z
        exact fun _ _ k' => PyProof.Rows.callWith_method1 k' (star_cons hs.1) (star_none hs.2)
      · subst z
        intro h0 _ k'
        rcases h0 with rfl | h0
        · exact PyProof.Rows.callWith_type1 k' (star_cons hs.1) (star_none hs.2)
        · exact absurd rfl (h0 n)
theorem meth_eq {o : PySem.Expr} {name : Str} {apos pos : Pos} {args : List PySem.Expr} (ho : plainBase o = true) (hp : (apos.endLine == pos.line) = true) (hs : args.all notStar = true) (hn : args.length ≤ 20) :
    eval (.Call (.Attribute o name apos) args [] pos) env = (do
      let ov ← eval o env
      standAt apos.atName
      let (f, first) ← holding [ov] (getMethod ov name (do return (← importBound o env).getD true))
      callWith pos f first (backTo pos (starEach args env)) []) := by
  have hb : attributeBase o name env (eval o env) = eval o env := by cases o <;> first | rfl | cases ho
  have hf : methodCallForm (args.length + 0) (backTo pos (starEach args env)) [] = true := by
    unfold methodCallForm
    have h1 : (backTo pos (starEach args env)).all (fun x => !x.1) = true := by
      have := star_none (env := env) (pos := pos) hs
      rw [List.all_eq_not_any_not]
      simp only [Bool.not_not]
      rw [this]; rfl
    rw [h1]
    have : args.length < 30 := by omega
    simpa using this
  show (do
    let ov ← attributeBase o name env (eval o env)
    standAt apos.atName
    methodCall o name apos pos env ov (args.length + 0) (backTo pos (starEach args env)) []) = _
  rw [hb]
  refine congrArg (Bind.bind (eval o env)) (funext fun ov => congrArg (Bind.bind (standAt apos.atName)) (funext fun _ => ?_))
  unfold methodCall
  rw [hf]
  unfold calleeOf methodCallPos
  rw [hp]
  rfl
end

end
-- W8
section
noncomputable def freeC (cells : List (Str × Nat)) (l : List (Str × NameKind)) : Option (List (Str × Nat)) := List.rec (some []) (fun q _ ih => cnd (q.2 == .free) (ob (cells.lookup q.1) fun i => ob ih fun l => some ((q.1, i) :: l)) ih) l
noncomputable def isNoPars (ps : Arguments) : Bool := match ps with
  | ⟨a, b, c, d, e, f, g⟩ => a.isEmpty && (b.isEmpty && (c.isNone && (d.isEmpty && (e.isEmpty && (f.isNone && g.isEmpty)))))
section
variable (P : Params)
/-- the table of codes of a def -/
noncomputable def tabAt (code : Value) (l : List SO) : Nat → Option (Nat × Addr × List (Nat × Nat × Nat)) := List.rec (fun _ => none) (fun o _ ih i => orE (oTab o fun j a es => vRef code fun c => gd (Nat.beq i j && codeHdIn (hd.heap_1 P) c a) (some (i, a, es))) (ih (i + 1))) l
noncomputable def placeOf (pos : Pos) (es : List (Nat × Nat × Nat)) : Option Nat := List.rec none (fun e _ ih => cnd (Nat.beq e.1 pos.line && Nat.beq e.2.1 pos.col) (some e.2.2) ih) es
noncomputable def lamQ (sc : SC) : Str := sc.cn ++ ".<locals>." ++ "<lambda>"
noncomputable def lamNew (sc : SC) (body : PySem.Expr) (scope : Scope) (pos : Pos) (cl : List (Str × Nat)) (i : Nat) (a : Addr) (es : List (Nat × Nat × Nat)) (st : St) : Outs := gd (!st.frz.contains i) (okv (.own (st.objs.length + 1)) (((st.addO (.code (lamQ sc))).addO (.fn (lamQ sc) body scope cl st.objs.length)).setO i (.tab i a (es ++ [(pos.line, pos.col, st.objs.length)]))))
noncomputable def evLam (sc : SC) (ps : Arguments) (body : PySem.Expr) (scope : Scope) (pos : Pos) (st : St) : Outs := gd (isNoPars ps && sc.cv.isNone) (ob (freeC sc.cells scope.names) fun cl => ob (tabAt P sc.code st.objs 0) fun q =>
  Option.rec (lamNew sc body scope pos cl q.1 q.2.1 q.2.2 st) (fun k => newO (.fn (lamQ sc) body scope cl k) st) (placeOf pos q.2.2))
end
theorem lookup_mem {α : Type} {x : Str} {a : α} {l : List (Str × α)} (h : l.lookup x = some a) : (x, a) ∈ l := by
  induction l with
  | nil => cases h
  | cons q r ih =>
    rw [List.lookup_cons] at h
    cases e : x == q.1 with
    | true => rw [e] at h; cases h; rw [beq_iff_eq.mp e]; exact .head _
    | false => rw [e] at h; exact .tail _ (ih h)
theorem mem_lookup {α : Type} {x : Str} {a : α} {l : List (Str × α)} (h : (x, a) ∈ l) : ∃ b, l.lookup x = some b := by
  induction l with
  | nil => cases h
  | cons q r ih =>
    rw [List.lookup_cons]
    cases e : x == q.1 with
    | true => exact ⟨_, rfl⟩
    | false =>
      rcases List.mem_cons.mp h with z | z
      · subst z; rw [beq_self_eq_true] at e; cases e
      · exact ih z
/-- a cell of the closure -/
structure ClR (ρ : List Addr) (env : Env) (cells : List (Str × Nat)) (p : Str × Addr) : Prop where
  h : ∃ i, cells.lookup p.1 = some i ∧ ρ[i]? = some p.2
inductive ClosR (ρ : List Addr) (env : Env) (cells cells' : List (Str × Nat)) (acc : List (Str × Addr)) (f : Sem (List (Str × Addr))) : Prop
  | mk (cl : List (Str × Addr)) (h1 : f = pure cl) (h2 : ∀ p ∈ cl, ClR ρ env cells p) (h3 : ∀ p ∈ acc, p ∈ cl) (h4 : ∀ q ∈ cells', cells.lookup q.1 = some q.2 ∧ ∃ a, (q.1, a) ∈ cl)
theorem closure_go {ρ : List Addr} {env : Env} {cells : List (Str × Nat)} (hc : CellsR ρ cells env.cells) {names : List (Str × NameKind)} : ∀ {cells' : List (Str × Nat)} {acc : List (Str × Addr)}, freeC cells names = some cells' → (∀ p ∈ acc, ClR ρ env cells p) →
    ClosR ρ env cells cells' acc (forIn names acc (fun (x : Str × NameKind) (cs : List (Str × Addr)) => ((if (x.2 == NameKind.free) = true then (cellOf env x.1 >>= fun a => pure (ForInStep.yield ((x.1, a) :: cs))) else pure (ForInStep.yield cs)) : Sem (ForInStep (List (Str × Addr)))))) := by
  induction names with
  | nil => intro cells' acc e ha; cases e; exact ⟨acc, rfl, ha, fun _ h => h, fun _ h => nomatch h⟩
  | cons x r ih =>
    intro cells' acc e ha
    refine i_cnd (fun e hk => i_ob (fun i e hi => i_ob (fun l e hl => ?_) e) e) (fun e hk => ?_) e
    · cases e
      obtain ⟨a, ha1, ha2⟩ := hc _ _ hi
      obtain ⟨cl, h1, h2, h3, h4⟩ := ih (acc := (x.1, a) :: acc) hl fun p hp => (List.mem_cons.mp hp).elim (fun e => by subst e; exact ⟨i, hi, ha1⟩) (ha p)
      refine ⟨cl, ?_, h2, fun p hp => h3 p (.tail _ hp), fun q hq => (List.mem_cons.mp hq).elim (fun e => by subst e; exact ⟨hi, a, h3 _ (.head _)⟩) (h4 q)⟩
      rw [List.forIn_cons, if_pos hk]
      unfold cellOf
      rw [ha2]
      exact h1
    · obtain ⟨cl, h1, h2, h3, h4⟩ := ih e ha
      refine ⟨cl, ?_, h2, h3, h4⟩
      rw [List.forIn_cons, if_neg (by rw [hk]; exact Bool.noConfusion)]
      exact h1
/-- the cells that a comprehension closes over -/
theorem closure_ok {ρ : List Addr} {scope : Scope} {env : Env} {cells cells' : List (Str × Nat)} (hc : CellsR ρ cells env.cells) (e : freeC cells scope.names = some cells') : ∃ cl, closureFor scope env = pure cl ∧ CellsR ρ cells' cl := by
  obtain ⟨cl, h1, h2, h3, h4⟩ := closure_go hc (acc := []) e (fun _ h => nomatch h)
  refine ⟨cl, ?_, fun x i hx => ?_⟩
  · unfold closureFor
    exact (congrArg (fun t : Sem (List (Str × Addr)) => t >>= pure) h1)
  · obtain ⟨hl, a, ha⟩ := h4 _ (lookup_mem hx)
    obtain ⟨b, hb⟩ := mem_lookup ha
    obtain ⟨⟨j, e1, e2⟩⟩ := h2 _ (lookup_mem hb)
    cases hl.symm.trans e1
    exact ⟨b, e2, hb⟩
theorem noPars_ok {ps : Arguments} (h : isNoPars ps = true) : ps = noPars := by
  obtain ⟨a, b, c, d, e, f, g⟩ := ps
  obtain ⟨h1, h⟩ := Bool.and_eq_true_iff.mp h
  obtain ⟨h2, h⟩ := Bool.and_eq_true_iff.mp h
  obtain ⟨h3, h⟩ := Bool.and_eq_true_iff.mp h
  obtain ⟨h4, h⟩ := Bool.and_eq_true_iff.mp h
  obtain ⟨h5, h⟩ := Bool.and_eq_true_iff.mp h
  obtain ⟨h6, h7⟩ := Bool.and_eq_true_iff.mp h
  rw [List.isEmpty_iff.mp h1, List.isEmpty_iff.mp h2, Option.isNone_iff_eq_none.mp h3, List.isEmpty_iff.mp h4, List.isEmpty_iff.mp h5, Option.isNone_iff_eq_none.mp h6, List.isEmpty_iff.mp h7]
  rfl
theorem tabAt_ok {P : Params} {code : Value} {q : Nat × Addr × List (Nat × Nat × Nat)} {objs : List SO} : ∀ {k : Nat}, tabAt P code objs k = some q → ∃ c j, code = .ref c ∧ codeHdIn (hd.heap_1 P) c q.2.1 = true ∧ q.1 = j + k ∧ objs[j]? = some (.tab q.1 q.2.1 q.2.2) := by
  induction objs with
  | nil => intro k e; exact dead e
  | cons o r ih =>
    intro k e
    refine i_or (fun e => i_oTab (fun j a es e z => i_vRef (fun c e z' => i_gd (fun e9 h => ?_) e) e) e) (fun e => ?_) e
    · subst z z'
      cases e9
      rw [Bool.and_eq_true] at h
      cases Nat.eq_of_beq_eq_true h.1
      exact ⟨c, 0, rfl, h.2, (Nat.zero_add k).symm, rfl⟩
    · obtain ⟨c, j, h1, h2, h3, h4⟩ := ih e
      exact ⟨c, j + 1, h1, h2, h3.trans (Nat.succ_add j k).symm, h4⟩
theorem beq_cast {a b : Nat} : ((a : Int) == (b : Int)) = Nat.beq a b := by
  rw [← Bool.coe_iff_coe, beq_iff_eq, Nat.beq_eq]; exact Int.ofNat_inj
/-- what a table of codes tells of a place -/
inductive AmongR (ρ : List Addr) (pos : Pos) (l : List Value) : Option Nat → Prop
  | none : codeAmong pos l = none → AmongR ρ pos l none
  | some {k : Nat} {c : Addr} : ρ[k]? = some c → codeAmong pos l = some (.ref c) → AmongR ρ pos l (some k)
theorem among_ok {ρ : List Addr} {pos : Pos} {es : List (Nat × Nat × Nat)} : ∀ {l : List Value}, TabR ρ es l → AmongR ρ pos l (placeOf pos es) := by
  induction es with
  | nil => intro l h; cases h; exact .none rfl
  | cons e r ih =>
    intro l h
    obtain ⟨c, t, rfl, h2, h3⟩ := h
    have hc : codeAmong pos (rawInt e.1 :: rawInt e.2.1 :: .ref c :: t) = if ((e.1 : Int) == pos.line && (e.2.1 : Int) == pos.col) = true then some (.ref c) else codeAmong pos t := rfl
    rw [beq_cast, beq_cast] at hc
    show AmongR ρ pos _ (cnd (Nat.beq e.1 pos.line && Nat.beq e.2.1 pos.col) (some e.2.2) (placeOf pos r))
    revert hc
    cases (Nat.beq e.1 pos.line && Nat.beq e.2.1 pos.col) with
    | true => exact fun hc => .some h2 hc
    | false =>
      intro hc
      have key := ih h3
      show AmongR ρ pos _ (placeOf pos r)
      revert key
      generalize placeOf pos r = z
      intro key
      cases key with
      | none h => exact .none (hc.trans h)
      | some h h' => exact .some h (hc.trans h')
theorem triples_ok {ρ : List Addr} {es : List (Nat × Nat × Nat)} : ∀ {l : List Value}, TabR ρ es l → TriplesOk l := by
  induction es with
  | nil => intro l h; cases h; trivial
  | cons e r ih => intro l h; obtain ⟨c, t, rfl, h2, h3⟩ := h; have := ih h3; exact this
theorem TabR.snoc {ρ : List Addr} {e : Nat × Nat × Nat} {c : Addr} (hc : ρ[e.2.2]? = some c) {es : List (Nat × Nat × Nat)} : ∀ {l : List Value}, TabR ρ es l → TabR ρ (es ++ [e]) (l ++ [rawInt e.1, rawInt e.2.1, .ref c]) := by
  induction es with
  | nil => intro l h; cases h; exact ⟨c, [], rfl, hc, rfl⟩
  | cons a r ih => intro l h; obtain ⟨c', t, rfl, h2, h3⟩ := h; exact ⟨c', _, rfl, h2, ih h3⟩
section
variable {Γ : FC} {st : St} {ρ : List Addr} {σ : List Int} {s : Shared} {Q : Value → Shared → Prop} {X : Value → Shared → Prop} {outs : List (RR × St)} {env : Env} {ih : Run} {sc : SC} {h' g : Heap} {m : Str → Option Value} {os : List Obj}
/-- a new object among others, of which the older lie below -/
theorem FSx.fresh' (F : FSx Γ st ρ σ h' g m os) {D : Addr} {o : Obj} {so : SO} (N' : (∀ q ∈ ρ.zip os ++ Γ.extra, q.1 < D) ∧ News g Γ.L h' [(D, o)]) (ho : OR (ρ ++ [D]) σ so o) : FSx Γ (st.addO so) (ρ ++ [D]) σ h' g m (os ++ [o]) :=
  F.fresh F.F (fun q hq => (List.mem_cons.mp hq).elim (fun e => N'.2 q (by rw [e]; exact .head _)) (F.N q)) (fun q hq => Nat.ne_of_lt (N'.1 q hq)) ho
theorem lt_snoc {D f : Addr} {o : Obj} {extra : List (Addr × Obj)} (hl : ρ.length = os.length) (lo : ∀ q ∈ ρ.zip os ++ extra, q.1 < D) (hf : D < f) : ∀ q ∈ (ρ ++ [D]).zip (os ++ [o]) ++ extra, q.1 < f := fun q hq => by
  rw [List.zip_append hl, List.append_assoc] at hq
  rcases List.mem_append.mp hq with h | h
  · exact Nat.lt_trans (lo q (List.mem_append_left _ h)) hf
  · rcases List.mem_cons.mp h with h | h
    · rw [h]; exact hf
    · exact Nat.lt_trans (lo q (List.mem_append_right _ h)) hf
theorem lam_ok (XB : (hd.heap_1 w.params).In base) (TB : Top p loose mean mg mb base) {ps : Arguments} {body : PySem.Expr} {scope : Scope} {pos : Pos} (h : evLam w.params sc ps body scope pos st = some outs) (V : EnvR Γ ρ σ sc env) (F : FS Γ st ρ σ s.heap) (P : Post relE Γ ρ σ s outs Q X) :
    wpAny (model prg w) Γ.A (eval (.Lambda ps body scope pos) env) Q X s := by
  refine i_gd (fun h hok => i_ob (fun cl h hcl => i_ob (fun q h htab => ?_) h) h) h
  rw [Bool.and_eq_true] at hok
  have hps := noPars_ok hok.1
  subst hps
  cases V with
  | comp hcs hk hcv => rw [hcv] at hok; cases hok.2
  | fn hcs hcv hcell hcode hcn =>
    obtain ⟨i, a, es⟩ := q
    obtain ⟨clos, hclos, hclR⟩ := closure_ok (env := Γ.env) hcell hcl
    obtain ⟨c, j, hc, hin, hij, hi⟩ := tabAt_ok htab
    have hij : i = j := hij
    subst hij
    have hccd : Γ.ccd = .ref c := hcode.elim (fun e => by rw [e] at hc; cases hc) fun e => e.symm.trans hc
    obtain ⟨g, m, os, FX⟩ := F
    obtain ⟨P', o, hP', ho, ⟨hPa, pa, rfl, htr⟩, hm⟩ := FX.obj hi
    cases hP'.symm.trans hPa
    have C := codeHd_of_K (FX.In XB) hin
    refine kla_eval rfl ?_
    rw [show Γ.env.qual ++ "<lambda>" = lamQ sc by unfold lamQ; rw [hcn]]
    have key := among_ok (pos := pos) htr
    have h : (Option.rec (lamNew sc body scope pos cl i a es st) (fun k => newO (.fn (lamQ sc) body scope cl k) st) (placeOf pos es) : Outs) = some outs := h
    revert key h
    generalize placeOf pos es = z
    intro key h
    cases key with
    | some hc' hamong =>
      refine kla_hit FX.F FX.N (FX.Tp TB) C hccd hm (triples_ok htr) hamong hclos fun f ctv h' tk F' N' lo => ?_
      exact post_fresh h P FX F' N' lo ⟨clos, _, _, ctv, pre_get (List.prefix_append _ _) hc', hclR.mono (List.prefix_append _ _), rfl⟩ tk
    | none hamong =>
      refine i_gd (fun h hfr => ?_) h
      have hfr := Bool.not_eq_true' _ ▸ hfr
      refine kla_nest FX.F FX.N (FX.Tp TB) C hccd (FX.upd hP' ho) (triples_ok htr) hamong hclos fun f c' oc vs t ctv h' tk F' N' hd hv lo1 lo2 => ?_
      cases h
      have hlen : st.objs.length = ρ.length := FX.O.length.trans FX.len.symm
      have hil : i < ρ.length := (List.getElem?_eq_some_iff.mp hP').1
      have F1 : FSx Γ (st.setO i .any) ρ σ h' g m (os.set i _) := FX.set (so := .any) F' (fun q hq => N' q (.tail _ (.tail _ hq))) trivial (FX.free ho (fun z => by obtain ⟨z, _⟩ := z; cases z) hfr)
      have lo1' : ∀ q ∈ ρ.zip (os.set i (tabObj (pa ++ #[rawInt pos.line, rawInt pos.col, .ref c']))) ++ Γ.extra, q.1 < c' := fun q hq => by
        rcases List.mem_append.mp hq with hq | hq
        · obtain ⟨o', ho'⟩ := zip_mem FX.len (zip_key hq)
          exact lo1 (q.1, o') (List.mem_append_left _ ho')
        · exact lo1 _ (List.mem_append_right _ hq)
      have F2 := F1.fresh' (so := .code (lamQ sc)) (o := oc) (D := c') ⟨lo1', fun q hq => N' q (.tail _ (List.mem_cons.mp hq |>.elim (fun e => by rw [e]; exact .head _) fun e => nomatch e))⟩ ⟨vs, t, hd, hv⟩
      have hat : (ρ ++ [c'] ++ [f])[st.objs.length]? = some c' := pre_get (List.prefix_append _ _) (getLast_at hlen)
      have F3 := F2.fresh' (so := .fn (lamQ sc) body scope cl st.objs.length) (D := f) ⟨lt_snoc F1.len lo1' lo2, fun q hq => N' q (List.mem_cons.mp hq |>.elim (fun e => by rw [e]; exact .head _) fun e => nomatch e)⟩ ⟨clos, _, c', ctv, hat, hclR.mono ((List.prefix_append _ _).trans (List.prefix_append _ _)), rfl⟩
      have F4 := FSx.sym F3 (i := i) (so := .tab i a (es ++ [(pos.line, pos.col, st.objs.length)])) (pre_get (List.prefix_append _ _) (pre_get (List.prefix_append _ _) (List.getElem?_set_self (FX.len ▸ hil)))) ⟨pre_get (List.prefix_append _ _) (pre_get (List.prefix_append _ _) hP'), _, rfl, by
        rw [Array.toList_append]
        exact TabR.snoc (e := (pos.line, pos.col, st.objs.length)) (c := c') hat (htr.mono ((List.prefix_append _ _).trans (List.prefix_append _ _)))⟩
      have hset : ((((st.setO i .any).addO (.code (lamQ sc))).addO (.fn (lamQ sc) body scope cl st.objs.length)).setO i (.tab i a (es ++ [(pos.line, pos.col, st.objs.length)]))) = (((st.addO (.code (lamQ sc))).addO (.fn (lamQ sc) body scope cl st.objs.length)).setO i (.tab i a (es ++ [(pos.line, pos.col, st.objs.length)]))) := by
        have hil' : i < st.objs.length := hlen ▸ hil
        refine congrArg (fun z => St.mk st.loc z st.bnd st.turn st.frz st.sums) ?_
        show (st.objs.set i SO.any ++ [SO.code (lamQ sc)] ++ [SO.fn (lamQ sc) body scope cl st.objs.length]).set i _ = (st.objs ++ [SO.code (lamQ sc)] ++ [SO.fn (lamQ sc) body scope cl st.objs.length]).set i _
        rw [List.append_assoc, List.append_assoc, List.set_append_left _ _ (by rw [List.length_set]; exact hil'), List.set_set, List.set_append_left _ _ hil']
      exact post_one P (ρ' := ρ ++ [c'] ++ [f]) ((List.prefix_append _ _).trans (List.prefix_append _ _)) (List.prefix_refl σ) (a := Value.ref f) (show relE (ρ ++ [c'] ++ [f]) σ (.val (.own (st.objs.length + 1))) (.ref f) from ⟨f, getLast_at (by rw [List.length_append, hlen]; rfl), rfl⟩) (hset ▸ ⟨g, m, _, F4⟩)
noncomputable def isFnO (st : St) (v : SV) : Option Unit := onObj st v fun _ o => oFn o fun _ _ _ _ _ => some ()
theorem callOwn_ok (G : Good ih) {fv : SV} {f : Value} {args : List PySem.Expr} {pos : Pos} {lvl : Nat} {u : Unit} (e : ih (.C lvl fv []) st = some outs) (ho : isFnO st fv = some u) (ha : args = []) (W : WF Γ lvl) (ra : VR ρ σ fv f) (F : FS Γ st ρ σ s.heap) (P : Post relE Γ ρ σ s outs Q X) :
    wpAny (model prg w) Γ.A (callWith pos f [] (backTo pos (starEach args env)) []) Q X s := by
  subst ha
  obtain ⟨g, m, os, FX⟩ := id F
  have ra' := ra
  revert ra'
  refine FX.onObj ra ho fun i so a o ho hax hi hoo hm r => i_oFn (fun q body scope cl c _ z => fun ra' => ?_) ho
  subst z
  obtain ⟨clos, pm, c', ctv, _, _, rfl⟩ := r
  have hfn : FnAt a s.heap := ⟨_, _, _, _, (FX.N _ hm).1⟩
  refine callWith_of (P := FnAt a) rfl keeps_F ?_
  refine args_nil0 (pos := pos) (env := env) ?_
  refine wpAny_mono (args_nil (pos := pos) (env := env) (Q := fun vs s' => vs = [] ∧ s' = s) ⟨rfl, rfl⟩) (fun vs s' h => ?_) fun _ _ x => x
  obtain ⟨rfl, rfl⟩ := h
  exact ⟨hfn, G.C _ _ _ _ _ e _ _ _ _ _ s' _ _ W ra' .nil F P⟩
end

end
-- W9
section
set_option backward.match.sparseCases false
section
variable {β : Type} {q : β} {G : Prop}
noncomputable def eName (e : PySem.Expr) (f : Str → Pos → Option β) : Option β := match e with
  | .Name x p => f x p
  | _ => none
theorem i_eName {e : PySem.Expr} {f : Str → Pos → Option β} (k : ∀ x p, f x p = some q → e = .Name x p → G) (h : eName e f = some q) : G := by cases e <;> first | exact k _ _ h rfl | exact dead h
noncomputable def eAttr (e : PySem.Expr) (f : PySem.Expr → Str → Pos → Option β) : Option β := match e with
  | .Attribute o n p => f o n p
  | _ => none
theorem i_eAttr {e : PySem.Expr} {f : PySem.Expr → Str → Pos → Option β} (k : ∀ x n p, f x n p = some q → e = .Attribute x n p → G) (h : eAttr e f = some q) : G := by cases e <;> first | exact k _ _ _ h rfl | exact dead h
noncomputable def eSl (e : PySem.Expr) : Option (Option PySem.Expr × Option PySem.Expr × Pos) := match e with
  | .Slice lo hi z p => Option.rec (some (lo, hi, p)) (fun _ => none) z
  | _ => none
theorem eSl_some {e : PySem.Expr} {q : Option PySem.Expr × Option PySem.Expr × Pos} (h : eSl e = some q) : e = .Slice q.1 q.2.1 none q.2.2 := by
  cases e <;> first | exact dead h | skip
  rename_i lo hi z p
  cases z with
  | none => cases h; rfl
  | some _ => exact dead h
theorem eSl_none {e : PySem.Expr} (h : eSl e = none) : ∀ lo hi p, e ≠ .Slice lo hi none p := fun lo hi p z => by subst z; cases h
end
noncomputable def stopB (op : BoolOp) (t : Bool) : Bool := match op with
  | .And => !t
  | .Or => t
noncomputable def evConst (c : Const) (st : St) : Outs := match c with
  | .int n => okv (.int (.lit n)) st
  | .str x => okv (.str x) st
  | .none => okv .none st
  | .bool b => okv (.bool b) st
  | .bytes l => okv (.bytes (l.map fun c => .lit c.toNat)) st
  | _ => none
section
variable (P : Params) (ih : Run) (sc : SC)
noncomputable def evName (x : Str) (st : St) : Outs := gd (!decide (x = Str.ofString "__debug__")) (ob (nameV P sc st x) fun v => okv v st)
noncomputable def evBin (l : PySem.Expr) (op : Operator) (r : PySem.Expr) (st : St) : Outs := bnd (ih (.E sc l) st) (rVal fun a st1 => bnd (ih (.E sc r) st1) (rVal fun b st2 => binop2 P op a b st2))
noncomputable def evCmp1 (l : PySem.Expr) (op : CmpOp) (r : PySem.Expr) (st : St) : Outs := gd (!behindInMarks op r) (bnd (ih (.E sc l) st) (rVal fun a st1 => bnd (ih (.E sc r) st1) (rVal fun b st2 => cmpop P op a b st2)))
noncomputable def evLast (o2 : CmpOp) (r2 : PySem.Expr) (b c : SV) (st : St) : Outs := ob (truth c st) fun t => cnd t (bnd (ih (.E sc r2) st) (rVal fun d st4 => cmpop P o2 b d st4)) (okv c st)
noncomputable def evCmp2 (l : PySem.Expr) (o1 o2 : CmpOp) (r1 r2 : PySem.Expr) (st : St) : Outs := gd (!lastMarks [o1, o2] [r1, r2]) (bnd (ih (.E sc l) st) (rVal fun a st1 => bnd (ih (.E sc r1) st1) (rVal fun b st2 => bnd (cmpop P o1 a b st2) (rVal fun c st3 => evLast P ih sc o2 r2 b c st3))))
noncomputable def evCmp (l : PySem.Expr) (ops : List CmpOp) (rs : List PySem.Expr) (st : St) : Outs := orE (l1 ops fun op => l1 rs fun r => evCmp1 P ih sc l op r st) (l2 ops fun o1 o2 => l2 rs fun r1 r2 => evCmp2 P ih sc l o1 o2 r1 r2 st)
noncomputable def evBool2 (op : BoolOp) (x y : PySem.Expr) (r : List PySem.Expr) (pos : Pos) (st : St) : Outs := bnd (ih (.E sc x) st) (rVal fun v st1 => ob (truth v st1) fun t => cnd (stopB op t) (okv v st1) (ih (.E sc (.BoolOp op (y :: r) pos)) st1))
noncomputable def evBool (op : BoolOp) (vs : List PySem.Expr) (pos : Pos) (st : St) : Outs := orE (l1 vs fun x => ih (.E sc x) st) (lc vs fun x r => lc r fun y r => evBool2 ih sc op x y r pos st)
noncomputable def evIf (t a b : PySem.Expr) (st : St) : Outs := bnd (ih (.T sc t) st) (rTru fun c st1 => cnd c (ih (.E sc a) st1) (ih (.E sc b) st1))
noncomputable def evTup (es : List PySem.Expr) (st : St) : Outs := bnd (ih (.Es sc es) st) (rVals fun vs st1 => gd (Nat.ble vs.length 1000) (newO (.tup vs) st1))
noncomputable def evList (es : List PySem.Expr) (st : St) : Outs := bnd (ih (.Es sc es) st) (rVals fun vs st1 => gd (Nat.ble vs.length 1000) (newO (.list vs) st1))
noncomputable def evNot (x : PySem.Expr) (st : St) : Outs := bnd (ih (.E sc x) st) (rVal fun v st1 => ob (truth v st1) fun t => okv (.bool !t) st1)
noncomputable def evNeg (x : PySem.Expr) (st : St) : Outs := bnd (ih (.E sc x) st) (rVal fun a st1 => onInt a fun n => iLit n fun n => okv (.int (.lit (-n))) st1)
noncomputable def evUn (op : UnaryOp) (x : PySem.Expr) (st : St) : Outs := match op with
  | .Not => evNot ih sc x st
  | .USub => evNeg ih sc x st
  | _ => none
noncomputable def evAttr (o : PySem.Expr) (name : Str) (st : St) : Outs := gd (plainBase o) (bnd (ih (.E sc o) st) (rVal fun v st1 => ob (attrV P st1 v name) fun x => okv x st1))
noncomputable def evPart (o : Option PySem.Expr) (st : St) : Outs := Option.rec (okv .none st) (fun x => ih (.E sc x) st) o
noncomputable def evSl (v : PySem.Expr) (lo hi : Option PySem.Expr) (st : St) : Outs := bnd (ih (.E sc v) st) (rVal fun a st1 => bnd (evPart ih sc lo st1) (rVal fun l st2 => bnd (evPart ih sc hi st2) (rVal fun h st3 => orE (sliceY st3 a l h) (sliceL a l h st3))))
noncomputable def evIt (v i : PySem.Expr) (st : St) : Outs := bnd (ih (.E sc v) st) (rVal fun a st1 => bnd (ih (.E sc i) st1) (rVal fun b st2 => subV P a b st2))
noncomputable def evSub (v i : PySem.Expr) (st : St) : Outs := Option.rec (evIt P ih sc v i st) (fun q => evSl ih sc v q.1 q.2.1 st) (eSl i)
noncomputable def evArgs (fv : SV) (args : List PySem.Expr) (first : List SV) (st : St) : Outs := ob (callable P fv args.isEmpty) fun _ => bnd (ih (.Es sc args) st) (rVals fun vs st2 => ih (.C sc.lvl fv (first ++ vs)) st2)
noncomputable def evCallN (f : PySem.Expr) (args : List PySem.Expr) (st : St) : Outs := bnd (ih (.E sc f) st) (rVal fun fv st1 => orE (ob (isFnO st1 fv) fun _ => l0 args (ih (.C sc.lvl fv []) st1)) (evArgs P ih sc fv args [] st1))
noncomputable def evMeth (ov : SV) (name : Str) (args : List PySem.Expr) (st : St) : Outs := orE (ob (methV P st ov name) fun fv => evArgs P ih sc fv args [ov] st) (ob (methT P ov name) fun fv => evArgs P ih sc fv args [] st)
noncomputable def evCallA (o : PySem.Expr) (name : Str) (apos : Pos) (args : List PySem.Expr) (pos : Pos) (st : St) : Outs := gd (plainBase o && (apos.endLine == pos.line)) (bnd (ih (.E sc o) st) (rVal fun ov st1 => evMeth P ih sc ov name args st1))
noncomputable def evCall (f : PySem.Expr) (args : List PySem.Expr) (ks : List Keyword) (pos : Pos) (st : St) : Outs := l0 ks (gd (args.all notStar && Nat.ble args.length 20) (orE (eName f fun _ _ => evCallN P ih sc f args st) (eAttr f fun o name apos => evCallA P ih sc o name apos args pos st)))
noncomputable def evalE (lcomp : PySem.Expr → List Comprehension → Scope → St → Outs) (e : PySem.Expr) (st : St) : Outs := match e with
  | .Constant c _ _ => evConst c st
  | .Name x _ => evName P sc x st
  | .BinOp l op r _ => evBin P ih sc l op r st
  | .Compare l ops rs _ => evCmp P ih sc l ops rs st
  | .BoolOp op vs pos => evBool ih sc op vs pos st
  | .IfExp t a b _ => evIf ih sc t a b st
  | .Tuple es _ _ => evTup ih sc es st
  | .List es _ => evList ih sc es st
  | .UnaryOp op x _ => evUn ih sc op x st
  | .Attribute o name _ => evAttr P ih sc o name st
  | .Dict ks vs _ => l0 ks (l0 vs (newO (.idict st.objs.length []) st))
  | .Lambda ps body scope pos => evLam P sc ps body scope pos st
  | .Subscript v i _ => evSub P ih sc v i st
  | .Call f args ks pos => evCall P ih sc f args ks pos st
  | .ListComp elt gens scope _ => lcomp elt gens scope st
  | _ => none
end
section
variable {Γ : FC} {st : St} {ρ : List Addr} {σ : List Int} {s : Shared} {Q : Value → Shared → Prop} {X : Value → Shared → Prop} {outs : List (RR × St)} {env : Env} {ih : Run} {sc : SC}
theorem part_ok {β : Type} {rel2 : Rel β} {Q : β → Shared → Prop} (G : Good ih) {o : Option PySem.Expr} {f : SV → St → Outs} {K : Value → Shared → Prop} (h : bnd (evPart ih sc o st) (rVal f) = some outs) (W : WF Γ sc.lvl) (V : EnvR Γ ρ σ sc env) (F : FS Γ st ρ σ s.heap) (P : Post rel2 Γ ρ σ s outs Q X)
    (k : ∀ v a st1 ρ1 σ1 h1 tk1 l2, ρ <+: ρ1 → σ <+: σ1 → f v st1 = some l2 → VR ρ1 σ1 v a → EnvR Γ ρ1 σ1 sc env → FS Γ st1 ρ1 σ1 h1 → Post rel2 Γ ρ1 σ1 (sat s h1 tk1) l2 Q X → K a (sat s h1 tk1)) :
    wpAny (model prg w) Γ.A (evalPart o env) K X s := by
  cases o with
  | some x =>
    with_reducible refine evalPart_some_step ?_
    exact seqE G h W V F P k
  | none =>
    with_reducible refine evalPart_none_step ?_
    have h : ob (f .none st) (fun a => some (a ++ [])) = some outs := h
    refine i_ob (fun a h hf => ?_) h
    cases h
    exact k .none .none st ρ σ s.heap s.toks _ (List.prefix_refl _) (List.prefix_refl _) hf rfl V F (P.sub fun o ho => List.mem_append_left _ ho)
theorem E_const {c : Const} {k : Nat} {pos : Pos} (h : evConst c st = some outs) (F : FS Γ st ρ σ s.heap) (P : Post relE Γ ρ σ s outs Q X) : wpAny (model prg w) Γ.A (eval (.Constant c k pos) env) Q X s := by
  cases c <;> first | exact dead h | skip
  case int n => (with_reducible refine wpAny_Constant_int ?_); exact post_v (v := .int (.lit n)) h P F ⟨_, _, rfl, rfl⟩ _
  case str x => (with_reducible refine Calls.Constant_str ?_); exact post_v (v := .str x) h P F ⟨_, rfl⟩ _
  case none => (with_reducible refine wpAny_Constant_none ?_); exact post_v (v := .none) h P F rfl _
  case bool b => (with_reducible refine Constant_bool ?_); exact post_v (v := .bool b) h P F rfl _
  case bytes l => (with_reducible refine Constant_bytes ?_); exact post_v (v := .bytes _) h P F ⟨_, _, rfl, u8_lits⟩ _
variable (G : Good ih)
include G
theorem E_bin (XB : (hd.heap_1 w.params).In base) {l r : PySem.Expr} {op : Operator} {pos : Pos} (h : evBin w.params ih sc l op r st = some outs) (W : WF Γ sc.lvl) (V : EnvR Γ ρ σ sc env) (F : FS Γ st ρ σ s.heap) (P : Post relE Γ ρ σ s outs Q X) : wpAny (model prg w) Γ.A (eval (.BinOp l op r pos) env) Q X s := by
  with_reducible refine wpAny_BinOp ?_
  refine seqE G h W V F P fun a x st1 ρ1 σ1 h1 tk1 l1 hr1 hs1 e1 ra V1 F1 P1 => ?_
  refine seqE (s := (sat s h1 tk1)) G e1 W V1 F1 P1 fun b y st2 ρ2 σ2 h2 tk2 l2 hr2 hs2 e2 rb V2 F2 P2 => ?_
  exact binop2_ok (s := (sat s h2 tk2)) XB e2 (ra.mono hr2 hs2) rb F2 P2
omit G in
theorem WF.small {lvl : Nat} (W : WF Γ lvl) : Γ.A.units + 100 < cLine := Nat.lt_of_le_of_lt (Nat.add_le_add (Nat.le_add_right _ _) (by decide : 100 ≤ 200)) W.units
omit G in
theorem bnot {b : Bool} (h : (!b) = true) : b = false := by cases b <;> first | rfl | cases h
theorem E_cmp1 (XB : (hd.heap_1 w.params).In base) {l r : PySem.Expr} {op : CmpOp} {pos : Pos} (h : evCmp1 w.params ih sc l op r st = some outs) (W : WF Γ sc.lvl) (V : EnvR Γ ρ σ sc env) (F : FS Γ st ρ σ s.heap) (P : Post relE Γ ρ σ s outs Q X) : wpAny (model prg w) Γ.A (eval (.Compare l [op] [r] pos) env) Q X s := by
  refine i_gd (fun h hm => ?_) h
  refine wpAny_Compare1 ?_ (bnot hm)
  refine seqE G h W V F P fun a x st1 ρ1 σ1 h1 tk1 l1 hr1 hs1 e1 ra V1 F1 P1 => ?_
  refine seqE (s := (sat s h1 tk1)) G e1 W V1 F1 P1 fun b y st2 ρ2 σ2 h2 tk2 l2 hr2 hs2 e2 rb V2 F2 P2 => ?_
  exact cmpop_ok W.small (s := (sat s h2 tk2)) XB e2 (ra.mono hr2 hs2) rb F2 P2
theorem E_last (XB : (hd.heap_1 w.params).In base) {r : PySem.Expr} {op : CmpOp} {pos : Pos} {b c : SV} {y z : Value} (h : evLast w.params ih sc op r b c st = some outs) (rb : VR ρ σ b y) (rc : VR ρ σ c z) (W : WF Γ sc.lvl) (V : EnvR Γ ρ σ sc env) (F : FS Γ st ρ σ s.heap) (P : Post relE Γ ρ σ s outs Q X) : wpAny (model prg w) Γ.A (truthy z) (fun t s' => if t = true then wpAny (model prg w) Γ.A (compareChain pos y [op] [eval r env]) Q X s' else Q z s') X s := by
  refine i_ob (fun t h ht => ?_) h
  refine truth_ok ht rc F.toBd fun tk => ?_
  refine i_cnd (fun h q => ?_) (fun h q => ?_) h
  · rw [if_pos q]
    with_reducible refine chain_last ?_
    refine seqE (s := { s with toks := tk }) G h W V F P fun d z st4 ρ4 σ4 h4 tk4 l4 hr4 hs4 e4 rd V4 F4 P4 => ?_
    exact cmpop_ok W.small (s := (sat s h4 tk4)) XB e4 (rb.mono hr4 hs4) rd F4 P4
  · rw [if_neg (by rw [q]; exact Bool.noConfusion)]
    exact post_v h P F rc tk
theorem E_cmp2 (XB : (hd.heap_1 w.params).In base) {l r1 r2 : PySem.Expr} {o1 o2 : CmpOp} {pos : Pos} (h : evCmp2 w.params ih sc l o1 o2 r1 r2 st = some outs) (W : WF Γ sc.lvl) (V : EnvR Γ ρ σ sc env) (F : FS Γ st ρ σ s.heap) (P : Post relE Γ ρ σ s outs Q X) : wpAny (model prg w) Γ.A (eval (.Compare l [o1, o2] [r1, r2] pos) env) Q X s := by
  refine i_gd (fun h hm => ?_) h
  refine Compare_chain ?_ (bnot hm)
  refine seqE G h W V F P fun a x st1 ρ1 σ1 h1 tk1 l1 hr1 hs1 e1 ra V1 F1 P1 => ?_
  show wpAny (model prg w) Γ.A (compareChain pos x [o1, o2] [eval r1 env, eval r2 env]) Q X (sat s h1 tk1)
  with_reducible refine chain_link ?_
  refine seqE (s := (sat s h1 tk1)) G e1 W V1 F1 P1 fun b y st2 ρ2 σ2 h2 tk2 l2 hr2 hs2 e2 rb V2 F2 P2 => ?_
  obtain ⟨l, hl, P'⟩ := post_bind (rel1 := relE) e2 P2 relE_exc
  refine wpAny_mono (cmpop_ok W.small (s := (sat s h2 tk2)) XB hl (ra.mono hr2 hs2) rb F2 P') (fun c s1 N => ?_) fun _ _ x => x
  obtain ⟨v, st3, ρ3, σ3, h3, tk3, l3, rfl, hr3, hs3, hf, rc, F3, P3⟩ := nxtV N
  exact E_last (s := (sat s h3 tk3)) G XB hf (rb.mono hr3 hs3) rc W (V2.mono hr3 hs3) F3 P3
theorem E_bool {op : BoolOp} {vs : List PySem.Expr} {pos : Pos} (h : evBool ih sc op vs pos st = some outs) (W : WF Γ sc.lvl) (V : EnvR Γ ρ σ sc env) (F : FS Γ st ρ σ s.heap) (P : Post relE Γ ρ σ s outs Q X) : wpAny (model prg w) Γ.A (eval (.BoolOp op vs pos) env) Q X s := by
  refine i_or (fun h => i_l1 (fun x h z => ?_) h) (fun h => i_lc (fun x r h z => i_lc (fun y r h z' => ?_) h) h) h
  · subst z; exact G.E _ _ _ _ h _ _ _ _ _ _ _ W V F P
  · subst z z'
    show wpAny (model prg w) Γ.A (boolOp pos op (eval x env :: eval y env :: evalEach r env)) Q X s
    unfold boolOp
    refine wpAny_bind ?_
    refine seqE G h W V F P fun a v st1 ρ1 σ1 h1 tk1 l1 hr1 hs1 e1 ra V1 F1 P1 => ?_
    refine wpAny_bind (wpAny_standAt (wpAny_bind (wpAny_holding ?_)))
    refine i_ob (fun t e1 ht => ?_) e1
    refine truth_ok (s := (sat s h1 tk1)) ht ra F1.toBd fun tk => ?_
    refine i_cnd (fun e1 hst => ?_) (fun e1 hst => ?_) e1
    · have fin : wpAny (model prg w) Γ.A (pure v) Q X (sat s h1 tk) := wpAny_pure (post_v (s := (sat s h1 tk1)) e1 P1 F1 ra tk)
      cases op <;> cases t <;> first | (cases hst; done) | exact fin
    · have fin : wpAny (model prg w) Γ.A (boolOp pos op (eval y env :: evalEach r env)) Q X (sat s h1 tk) := G.E _ _ _ _ e1 _ _ _ _ (sat s h1 tk) _ _ W V1 F1 P1
      cases op <;> cases t <;> first | (cases hst; done) | exact fin
theorem E_if {t a b : PySem.Expr} {pos : Pos} (h : evIf ih sc t a b st = some outs) (W : WF Γ sc.lvl) (V : EnvR Γ ρ σ sc env) (F : FS Γ st ρ σ s.heap) (P : Post relE Γ ρ σ s outs Q X) : wpAny (model prg w) Γ.A (eval (.IfExp t a b pos) env) Q X s := by
  with_reducible refine IfExp_ ?_
  refine seqT G h W V (.inr rfl) F P fun c st1 ρ1 σ1 h1 tk1 l1 hr1 hs1 e1 V1 F1 P1 => ?_
  cases c with
  | true => exact G.E _ _ _ _ e1 _ _ _ _ (sat s h1 tk1) _ _ W V1 F1 P1
  | false => exact G.E _ _ _ _ e1 _ _ _ _ (sat s h1 tk1) _ _ W V1 F1 P1
theorem E_tup {es : List PySem.Expr} {k : Nat} {pos : Pos} (h : evTup ih sc es st = some outs) (W : WF Γ sc.lvl) (V : EnvR Γ ρ σ sc env) (F : FS Γ st ρ σ s.heap) (P : Post relE Γ ρ σ s outs Q X) : wpAny (model prg w) Γ.A (eval (.Tuple es k pos) env) Q X s := by
  with_reducible refine Tuple_ ?_
  refine seqEs G h W V F P fun vs xs st1 ρ1 σ1 h1 tk1 l1 hr1 hs1 e1 ra V1 F1 P1 => i_gd (fun e1 hz => ?_) e1
  refine newTup (s := (sat s h1 tk1)) ?_ (ra.length ▸ Nat.le_trans (Nat.le_of_ble_eq_true hz) (by decide))
  exact post_new (s := (sat s h1 tk1)) e1 P1 F1 rfl ⟨xs, rfl, VRs.mono (List.prefix_append _ _) (List.prefix_refl _) ra⟩ tk1
theorem E_list {es : List PySem.Expr} {pos : Pos} (h : evList ih sc es st = some outs) (W : WF Γ sc.lvl) (V : EnvR Γ ρ σ sc env) (F : FS Γ st ρ σ s.heap) (P : Post relE Γ ρ σ s outs Q X) : wpAny (model prg w) Γ.A (eval (.List es pos) env) Q X s := by
  with_reducible refine List_ ?_
  refine seqEs G h W V F P fun vs xs st1 ρ1 σ1 h1 tk1 l1 hr1 hs1 e1 ra V1 F1 P1 => i_gd (fun e1 hz => ?_) e1
  refine newLst (s := (sat s h1 tk1)) ?_ (ra.length ▸ Nat.le_trans (Nat.le_of_ble_eq_true hz) (by decide))
  exact post_new (s := (sat s h1 tk1)) e1 P1 F1 rfl ⟨xs, 0, rfl, VRs.mono (List.prefix_append _ _) (List.prefix_refl _) ra⟩ tk1
theorem E_un {op : UnaryOp} {x : PySem.Expr} {pos : Pos} (h : evUn ih sc op x st = some outs) (W : WF Γ sc.lvl) (V : EnvR Γ ρ σ sc env) (F : FS Γ st ρ σ s.heap) (P : Post relE Γ ρ σ s outs Q X) : wpAny (model prg w) Γ.A (eval (.UnaryOp op x pos) env) Q X s := by
  with_reducible refine UnaryOp_ ?_
  cases op <;> first | exact dead h | skip
  case Not =>
    refine seqE G h W V F P fun a x st1 ρ1 σ1 h1 tk1 l1 hr1 hs1 e1 ra V1 F1 P1 => i_ob (fun t e1 ht => ?_) e1
    exact PyProof.Rows.not_of (truth_ok (s := (sat s h1 tk1)) ht ra F1.toBd fun tk => post_v (s := (sat s h1 tk1)) (v := .bool !t) e1 P1 F1 rfl tk)
  case USub =>
    refine seqE G h W V F P fun a x st1 ρ1 σ1 h1 tk1 l1 hr1 hs1 e1 ra V1 F1 P1 => ?_
    refine ra.onInt e1 fun n k t e1 hk => hk.onLit e1 fun e1 => ?_
    with_reducible refine neg_int ?_
    exact post_v (s := (sat s h1 tk1)) e1 P1 F1 ⟨_, _, rfl, rfl⟩ _
theorem E_attr (XB : (hd.heap_1 w.params).In base) {o : PySem.Expr} {name : Str} {pos : Pos} (h : evAttr w.params ih sc o name st = some outs) (W : WF Γ sc.lvl) (V : EnvR Γ ρ σ sc env) (F : FS Γ st ρ σ s.heap) (P : Post relE Γ ρ σ s outs Q X) : wpAny (model prg w) Γ.A (eval (.Attribute o name pos) env) Q X s := by
  refine i_gd (fun h ho => ?_) h
  refine Attribute_any_ ?_ (by cases o <;> first | rfl | cases ho)
  refine seqE G h W V F P fun a x st1 ρ1 σ1 h1 tk1 l1 hr1 hs1 e1 ra V1 F1 P1 => i_ob (fun v e1 hv => ?_) e1
  exact attr_ok (s := (sat s h1 tk1)) XB hv ra F1 fun y tk hy => post_v (s := (sat s h1 tk1)) e1 P1 F1 hy tk
theorem E_sub (XB : (hd.heap_1 w.params).In base) {v i : PySem.Expr} {pos : Pos} (h : evSub w.params ih sc v i st = some outs) (W : WF Γ sc.lvl) (V : EnvR Γ ρ σ sc env) (F : FS Γ st ρ σ s.heap) (P : Post relE Γ ρ σ s outs Q X) : wpAny (model prg w) Γ.A (eval (.Subscript v i pos) env) Q X s := by
  with_reducible refine Subscript_ ?_
  unfold evSub at h
  cases hi : eSl i with
  | none =>
    rw [hi] at h
    refine seqE G h W V F P fun a x st1 ρ1 σ1 h1 tk1 l1 hr1 hs1 e1 ra V1 F1 P1 => ?_
    refine seqE (s := (sat s h1 tk1)) G e1 W V1 F1 P1 fun b y st2 ρ2 σ2 h2 tk2 l2 hr2 hs2 e2 rb V2 F2 P2 => ?_
    exact subV_ok (s := (sat s h2 tk2)) XB (eSl_none hi) e2 (ra.mono hr2 hs2) rb F2 P2
  | some q =>
    rw [hi] at h
    cases eSl_some hi
    refine seqE G h W V F P fun a x st1 ρ1 σ1 h1 tk1 l1 hr1 hs1 e1 ra V1 F1 P1 => ?_
    with_reducible refine wpAny_Slice ?_
    refine part_ok (s := (sat s h1 tk1)) G e1 W V1 F1 P1 fun b y st2 ρ2 σ2 h2 tk2 l2 hr2 hs2 e2 rb V2 F2 P2 => ?_
    refine part_ok (s := (sat s h2 tk2)) G e2 W V2 F2 P2 fun c z st3 ρ3 σ3 h3 tk3 l3 hr3 hs3 e3 rc V3 F3 P3 => ?_
    with_reducible refine evalPart_none_step ?_
    have ra := ra.mono (hr2.trans hr3) (hs2.trans hs3)
    have rb := rb.mono hr3 hs3
    exact i_or (fun e3 => sliceY_ok (s := (sat s h3 tk3)) e3 ra rb rc F3 P3 (fun _ _ => rfl)) (fun e3 => sliceL_ok (s := (sat s h3 tk3)) e3 ra rb rc F3 P3 (fun _ _ => rfl)) e3
theorem E_args (XB : (hd.heap_1 w.params).In base) {fv : SV} {f : Value} {args : List PySem.Expr} {first : List SV} {fs : List Value} {pos : Pos} (h : evArgs w.params ih sc fv args first st = some outs) (rf : VR ρ σ fv f) (rs : F2 (VR ρ σ) first fs) (h0 : fs = [] ∨ ∀ n, f ≠ .type n) (hs : args.all notStar = true) (W : WF Γ sc.lvl) (V : EnvR Γ ρ σ sc env) (F : FS Γ st ρ σ s.heap) (P : Post relE Γ ρ σ s outs Q X) :
    wpAny (model prg w) Γ.A (callWith pos f fs (backTo pos (starEach args env)) []) Q X s := by
  refine i_ob (fun u h hc => ?_) h
  refine callW XB rf hc h0 hs F ?_
  refine seqEs G h W V F P fun vs xs st2 ρ2 σ2 h2 tk2 l2 hr2 hs2 e2 rv V2 F2 P2 => ?_
  refine ⟨?_, G.C _ _ _ _ _ e2 _ _ _ _ _ (sat s h2 tk2) _ _ W (rf.mono hr2 hs2) ((VRs.mono hr2 hs2 rs).append rv) F2 P2⟩
  obtain ⟨g, m, os, F2⟩ := F2
  exact (F2.In XB).keeps F2.F.keep
theorem E_callN (XB : (hd.heap_1 w.params).In base) {x : Str} {xp pos : Pos} {args : List PySem.Expr} (h : evCallN w.params ih sc (.Name x xp) args st = some outs) (hs : args.all notStar = true) (W : WF Γ sc.lvl) (V : EnvR Γ ρ σ sc env) (F : FS Γ st ρ σ s.heap) (P : Post relE Γ ρ σ s outs Q X) : wpAny (model prg w) Γ.A (eval (.Call (.Name x xp) args [] pos) env) Q X s := by
  refine Call_ ?_ rfl
  refine seqE G h W V F P fun fv f st1 ρ1 σ1 h1 tk1 l1 hr1 hs1 e1 ra V1 F1 P1 => ?_
  exact i_or (fun e1 => i_ob (fun u e1 hu => i_l0 (fun e1 ha => callOwn_ok (s := (sat s h1 tk1)) G e1 hu ha W ra F1 P1) e1) e1) (fun e1 => E_args (s := (sat s h1 tk1)) G XB e1 ra .nil (.inl rfl) hs W V1 F1 P1) e1
theorem E_meth (XB : (hd.heap_1 w.params).In base) {ov : SV} {o : Value} {name : Str} {args : List PySem.Expr} {pos : Pos} {d : Sem Bool} (h : evMeth w.params ih sc ov name args st = some outs) (ra : VR ρ σ ov o) (hs : args.all notStar = true) (W : WF Γ sc.lvl) (V : EnvR Γ ρ σ sc env) (F : FS Γ st ρ σ s.heap) (P : Post relE Γ ρ σ s outs Q X) :
    wpAny (model prg w) Γ.A (getMethod o name d) (fun q s' => wpAny (model prg w) Γ.A (callWith pos q.1 q.2 (backTo pos (starEach args env)) []) Q X s') X s := by
  obtain ⟨g, m, os, FX⟩ := id F
  have ra' := ra
  refine i_or (fun h => i_ob (fun fv h hfv => ?_) h) (fun h => i_ob (fun fv h hfv => ?_) h) h
  · have fin : ∀ f, VR ρ σ fv f → (∀ n, f ≠ .type n) → wpAny (model prg w) Γ.A (callWith pos f [o] (backTo pos (starEach args env)) []) Q X s := fun f rf hnt => E_args G XB h rf (.cons ra' .nil) (.inr hnt) hs W V F P
    revert fin
    clear ra'
    refine i_or (fun hfv => ?_) (fun hfv => i_or (fun hfv => ?_) (fun hfv => ?_) hfv) hfv
    · refine FX.onInst ra hfv fun i C d es a da ds n e hda ho2 hm hm2 hes => i_ob (fun r e hr => i_ob (fun u e9 hu => i_vRef (fun f e hz => i_gd (fun e8 q => fun fin => ?_) e) e9) e) e
      cases e8
      subst hz hu
      rw [Bool.and_eq_true, Bool.and_eq_true] at q
      have key := getL_ok (name := name) hes
      rw [Option.isNone_iff_eq_none.mp q.2] at key
      cases key with
      | none hno => exact method_inst FX.F (FX.In XB) (InstAt.of_news FX.N hm hm2) q.1.1 hr q.1.2 hno (fin _ rfl fun n => Value.noConfusion)
    · refine FX.onList ra hfv fun i xs a vs n e _ _ hm hvs => i_gd (fun e q => fun fin => ?_) e
      cases e
      cases of_decide_eq_true q
      exact listMethod_K FX.N hm PySem.F.slot_list_append PySem.F.type_list_append (fin _ rfl fun n => Value.noConfusion)
    · refine ra.onBytes hfv fun l b t e hb => i_gd (fun e q => fun fin => ?_) e
      cases e
      cases of_decide_eq_true q
      exact BJ.method (fin _ rfl fun n => Value.noConfusion)
  · clear ra'
    revert hfv
    intro hfv
    refine ra.onImm hfv fun hfv hov => i_vType (fun T hfv z => i_gd (fun hfv hT => i_ob (fun r hfv hr => i_ob (fun u hfv hu => i_vBlt (fun b hfv hz => i_gd (fun hfv9 hh => ?_) hfv) hfv) hfv) hfv) hfv) hfv
    cases hfv9
    subst z hz
    cases of_decide_eq_true hT
    have hr : findCls (hd.heap_1 w.params) (.type "Exception") (.type "type") name = some (.val (.builtin b)) := by
      rw [hr]; cases r <;> first | (cases hu; rfl) | exact dead hu
    refine method_type FX.F (FX.In XB) meta_Exc (by decide +kernel) hr hh ?_
    exact E_args (s := { s with toks := s.toks + 1 }) G XB h rfl .nil (.inl rfl) hs W V F P
theorem E_call (XB : (hd.heap_1 w.params).In base) {f : PySem.Expr} {args : List PySem.Expr} {ks : List Keyword} {pos : Pos} (h : evCall w.params ih sc f args ks pos st = some outs) (W : WF Γ sc.lvl) (V : EnvR Γ ρ σ sc env) (F : FS Γ st ρ σ s.heap) (P : Post relE Γ ρ σ s outs Q X) : wpAny (model prg w) Γ.A (eval (.Call f args ks pos) env) Q X s := by
  refine i_l0 (fun h hk => i_gd (fun h8 ha => ?_) h) h
  subst hk
  rw [Bool.and_eq_true] at ha
  refine i_or (fun h => i_eName (fun x xp h z => ?_) h) (fun h => i_eAttr (fun o name apos h z => i_gd (fun h9 ho => ?_) h) h) h8
  · subst z; exact E_callN G XB h ha.1 W V F P
  · subst z
    rw [Bool.and_eq_true] at ho
    refine MethodCall_ ?_ (meth_eq ho.1 ho.2 ha.1 (Nat.le_of_ble_eq_true ha.2))
    refine seqE G h9 W V F P fun ov o' st1 ρ1 σ1 h1 tk1 l1 hr1 hs1 e1 ra V1 F1 P1 => ?_
    exact E_meth (s := (sat s h1 tk1)) G XB e1 ra ha.1 W V1 F1 P1
theorem E_ok0 (XB : (hd.heap_1 w.params).In base) (TB : Top p loose mean mg mb base) {lcomp : PySem.Expr → List Comprehension → Scope → St → Outs} {e : PySem.Expr} (h : evalE w.params ih sc lcomp e st = some outs) (W : WF Γ sc.lvl) (V : EnvR Γ ρ σ sc env) (F : FS Γ st ρ σ s.heap) (P : Post relE Γ ρ σ s outs Q X)
    (hlc : ∀ elt gens scope pos, lcomp elt gens scope st = some outs → wpAny (model prg w) Γ.A (eval (.ListComp elt gens scope pos) env) Q X s) :
    wpAny (model prg w) Γ.A (eval e env) Q X s := by
  cases e
  case Constant c k pos => exact E_const h F P
  case Name x pos => exact i_gd (fun h hd => i_ob (fun v h hv => name_ok XB TB hv (bnot hd) W V F fun a ha => post_v h P F ha s.toks) h) h
  case BinOp l op r pos => exact E_bin G XB h W V F P
  case Compare l ops rs pos => exact i_or (fun h => i_l1 (fun op h z => i_l1 (fun r h z' => by subst z z'; exact E_cmp1 G XB h W V F P) h) h) (fun h => i_l2 (fun o1 o2 h z => i_l2 (fun r1 r2 h z' => by subst z z'; exact E_cmp2 G XB h W V F P) h) h) h
  case BoolOp op vs pos => exact E_bool G h W V F P
  case IfExp t a b pos => exact E_if G h W V F P
  case Tuple es k pos => exact E_tup G h W V F P
  case List es pos => exact E_list G h W V F P
  case UnaryOp op x pos => exact E_un G h W V F P
  case Attribute o name pos => exact E_attr G XB h W V F P
  case Dict keys values pos => exact i_l0 (fun h z => i_l0 (fun h z' => by
    subst z z'
    obtain ⟨g, m, os, FX⟩ := F
    exact newDict_K FX.F FX.N (FX.Tp TB).nolimit fun d h' o F' N' lo hm _ _ hi _ => dict_new h P FX F' N' lo hm hi) h) h
  case Lambda ps body scope pos => exact lam_ok XB TB h V F P
  case Subscript v i pos => exact E_sub G XB h W V F P
  case Call f args kws pos => exact E_call G XB h W V F P
  case ListComp elt gens scope pos => exact hlc _ _ _ _ h
  all_goals exact dead h
end

end
-- W10
section
noncomputable def testsOf (l : List PySem.Expr) : Option (Option PySem.Expr) := orE (l0 l (some none)) (l1 l fun t => some (some t))
noncomputable def LstAt (ax : Addr) (its : Array Value) (nw : List (Addr × Obj)) : Prop := ∃ k, (ax, ({ cls := .type "list", data := .seq its k } : Obj)) ∈ nw
theorem LstAt.lst {h₀ h : Heap} {L ax : Addr} {its : Array Value} {nw : List (Addr × Obj)} (S : LstAt ax its nw) (N : News h₀ L h nw) : h.IsList ax its := let ⟨k, hm⟩ := S; N.isList hm
noncomputable def updY (y : Option (Str × Pos)) (m : Str → Option Value) (D : Addr) : Str → Option Value := match y with
  | none => m
  | some q => fun z => if z = q.1 then some (.ref D) else m z
/-- a comprehension's list is there: it is the value, or goes into a name -/
noncomputable def FinW (y : Option (Str × Pos)) (h₀ : Heap) (L : Addr) (m : Str → Option Value) (s₁ : Shared) (Kf : Value → Shared → Prop) (ys : List Value) (news : List (Addr × Obj)) : Prop :=
  ∀ D h tk, Fr h₀ L h (updY y m D) → News h₀ L h ((D, LCg.lst ys) :: news) → LCg.Off1 D news → Kf (match y with | none => .ref D | some _ => .none) { s₁ with heap := h, toks := tk }
abbrev CR (prog : Program) (w : World) (A : Around) (h₀ : Heap) (L : Addr) (m : Str → Option Value) (env : Env) (t : Option PySem.Expr) (elt : PySem.Expr) (x : Str) (scope : Scope) (cl : List (Str × Addr)) (y : Option (Str × Pos)) (Q : Value → Shared → Prop) (s₁ : Shared) (S : List (Addr × Obj) → Prop) (P : Nat → Value → Prop) (n : Nat) (news : List (Addr × Obj)) : Prop :=
  ∀ s₂ : Shared, (∃ h, s₂ = { s₁ with heap := h }) → CRest prog w A h₀ L m env t elt x scope cl s₂ S P (FinW y h₀ L m s₂ Q) n 0 [] news
inductive SrcW (prog : Program) (w : World) (A : Around) (L : Addr) (env : Env) (t : Option PySem.Expr) (elt : PySem.Expr) (x : Str) (scope : Scope) (cl : List (Str × Addr)) (y : Option (Str × Pos)) (Q : Value → Shared → Prop) (xv : Value) (s₁ : Shared) : Prop
  | tup {h₀ : Heap} {m : Str → Option Value} {ax : Addr} {its : Array Value} {news : List (Addr × Obj)} : xv = .ref ax → Fr h₀ L s₁.heap m → News h₀ L s₁.heap news → TupAt ax its news → its.size ≤ sizeLine → CR prog w A h₀ L m env t elt x scope cl y Q s₁ (TupAt ax its) (fun i v => its[i]? = some v) its.size news → SrcW prog w A L env t elt x scope cl y Q xv s₁
  | lst {h₀ : Heap} {m : Str → Option Value} {ax : Addr} {its : Array Value} {news : List (Addr × Obj)} : xv = .ref ax → Fr h₀ L s₁.heap m → News h₀ L s₁.heap news → LstAt ax its news → its.size ≤ sizeLine → CR prog w A h₀ L m env t elt x scope cl y Q s₁ (LstAt ax its) (fun i v => its[i]? = some v) its.size news → SrcW prog w A L env t elt x scope cl y Q xv s₁
  | up {h₀ : Heap} {m : Str → Option Value} {r : Addr} {a b : Int} {t' u v : Tok} {n : Nat} {news : List (Addr × Obj)} : xv = .ref r → Fr h₀ L s₁.heap m → News h₀ L s₁.heap news → IsRange s₁.heap r a b 1 t' u v → Builtin.Range.small a b 1 = true → Builtin.Range.rangeSize a b 1 = ((n : Nat) : Int) → n ≤ sizeLine →
      CR prog w A h₀ L m env t elt x scope cl y Q s₁ (fun _ => True) (fun i v => ∃ t, v = .int (a + (i : Int)) t) n news → SrcW prog w A L env t elt x scope cl y Q xv s₁
  | down {h₀ : Heap} {m : Str → Option Value} {r : Addr} {a b : Int} {t' u v : Tok} {n : Nat} {news : List (Addr × Obj)} : xv = .ref r → Fr h₀ L s₁.heap m → News h₀ L s₁.heap news → IsRange s₁.heap r a b (-1) t' u v → Builtin.Range.small a b (-1) = true → Builtin.Range.rangeSize a b (-1) = ((n : Nat) : Int) → n ≤ sizeLine →
      CR prog w A h₀ L m env t elt x scope cl y Q s₁ (fun _ => True) (fun i v => ∃ t, v = .int (a - (i : Int)) t) n news → SrcW prog w A L env t elt x scope cl y Q xv s₁
section
variable {prog : Program} {A : Around} {E : Value → Shared → Prop} {s : Shared} {h₀ : Heap} {L : Addr} {m : Str → Option Value} {env : Env}
theorem lst_st {ax I : Addr} {its : Array Value} : ∀ i (h h' : Heap) (o : Obj) (nw : List (Addr × Obj)), (h.IsListIter I ax i ∧ h.IsList ax its) → h.get? I = some o → h'.get? I = some o → (∀ b o, h₀.get? b = some o → h'.get? b = some o) → News h₀ L h' nw → LstAt ax its nw → (h'.IsListIter I ax i ∧ h'.IsList ax its) :=
  fun i h h' o nw st e e' k N S => ⟨by obtain ⟨o', q, r⟩ := st.1; rw [e] at q; cases q; exact ⟨o, e', r⟩, S.lst N⟩
noncomputable def useOf (y : Option (Str × Pos)) (env : Env) : Option (Value → Sem Unit) := match y with
  | none => none
  | some q => some (assign (.Name q.1 q.2) env)
/-- the name may be stored to -/
noncomputable def StoreOk (y : Option (Str × Pos)) (L : Addr) (env : Env) : Prop := match y with
  | none => True
  | some q => env.locals = L ∧ env.kindOf q.1 = some .local ∧ (env.scope.kind == .class || (env.scope.kind == .module && env.locals != env.globals)) = false
theorem comp_end {M : Model} {y : Option (Str × Pos)} (hy : StoreOk y L env) {D C : Addr} {h : Heap} {tk : Nat} {m' : Str → Option Value} {ys : List Value} {news' : List (Addr × Obj)} {Q : Value → Shared → Prop} (F' : Fr h₀ L h m) (N' : News h₀ L h ((D, LCg.lst ys) :: news')) (o1 : LCg.Off1 D news') (hn : h.Ns C m') (hC₀ : h₀.get? C = none) (hCL : C ≠ L) (hCD : C ≠ D) (offC : ∀ p ∈ news', p.1 ≠ C) (fin : FinW y h₀ L m s Q ys news') :
    compPost M A E (useOf y env) Q (.ref D) C (.ok .next) { s with heap := h, toks := tk } := by
  cases y with
  | none =>
    show ∃ m, h.Ns C m ∧ ∀ h', Heap.SameBut C h h' → Q (.ref D) { s with heap := h', toks := tk }
    refine ⟨m', hn, fun h'' hs'' => fin D h'' tk (F'.change hs'' hCL hC₀) (fun p hp => ?_) o1⟩
    refine ⟨hs''.extBut _ _ ?_ (N' p hp).1, (N' p hp).2⟩
    rcases List.mem_cons.mp hp with rfl | hp
    · exact Ne.symm hCD
    · exact offC p hp
  | some q =>
    obtain ⟨hL, hk, hc⟩ := hy
    subst hL
    show wpAny M A (assign (.Name q.1 q.2) env (.ref D)) _ E _
    refine wpAny_assign_Name (wpAny_storeName_local hk F'.ns (fun h₂ hn₂ hs₂ => ?_) hc)
    have hL₀ : h₀.get? env.locals = none := Heap.get?_none_of_le F'.above
    have F₂ : Fr h₀ env.locals h₂ (fun z => if z = q.1 then some (.ref D) else m z) := ⟨hn₂, fun b o e => hs₂.extBut b o (fun q => by rw [q, hL₀] at e; cases e) (F'.keep b o e), F'.above⟩
    refine ⟨m', hn.sameBut hs₂ hCL, fun h'' hs'' => fin D h'' _ (F₂.change hs'' hCL hC₀) (fun p hp => ?_) o1⟩
    have z : h₂.get? p.1 = some p.2 := hs₂.extBut _ _ (N' p hp).2.1 (N' p hp).1
    refine ⟨hs''.extBut _ _ ?_ z, (N' p hp).2⟩
    rcases List.mem_cons.mp hp with rfl | hp
    · exact Ne.symm hCD
    · exact offC p hp
theorem block_any {t : Option PySem.Expr} {tests : List PySem.Expr} (ht : testsOf tests = some t) {elt iter : PySem.Expr} {x : Str} {px : Pos} {scope : Scope} {cl : List (Str × Addr)} {pos : Pos} {s₂ : Shared} {I : Addr} {fp : List Addr} {n : Nat} {P : Nat → Value → Prop} {St : Nat → Heap → Prop} {S : List (Addr × Obj) → Prop} {news : List (Addr × Obj)}
    {Fin : List Value → List (Addr × Obj) → Prop} {RR : Value → Addr → Result → Shared → Prop}
    (W : Walks prog w A I fp [I] n P St) (hsz : n ≤ sizeLine) (hIo : ∀ i h, St i h → ∃ o, h.get? I = some o)
    (hSt : ∀ i h h' o nw, St i h → h.get? I = some o → h'.get? I = some o → (∀ b o, h₀.get? b = some o → h'.get? b = some o) → News h₀ L h' nw → S nw → St i h')
    (hcell : ∀ y ∈ scope.names, y.2 ≠ .cell) (hkind : scope.kind = .function) (hx : scope.names.lookup x = some .local) (hst : St 0 s₂.heap) (hfp : ∀ b ∈ fp, b < s₂.heap.objs.size)
    (F : Fr h₀ L s₂.heap m) (N : News h₀ L s₂.heap news) (hIL : L ≠ I) (hI₀ : h₀.get? I = none) (off : ∀ p ∈ news, p.1 ≠ I) (hS : S news)
    (R : CRest prog w A h₀ L m env t elt x scope cl s₂ S P Fin n 0 [] news)
    (hRR : ∀ D C h tk m' ys news', Fr h₀ L h m → News h₀ L h ((D, LCg.lst ys) :: news') → LCg.Off1 D news' → h.Ns C m' → h₀.get? C = none → h₀.get? D = none → C ≠ L → D ≠ L → C ≠ D → (∀ p ∈ news', p.1 ≠ C) → Fin ys news' → RR (.ref D) C (.ok .next) { s₂ with heap := h, toks := tk }) :
    wpAny (model prog w) A (PySem.newList []) (fun acc s₃ => wpAny (model prog w) A (newFunctionEnv scope env.globals cl [] env.qual none .none (some env)) (fun cenv s₄ =>
      codeAny (model prog w) A (.compStart (.ListComp elt [⟨.Name x px, iter, tests, 0⟩] scope pos) 0 (.ref I) acc { cenv with scope := relabel scope env }) (RR acc cenv.locals) s₄) E s₃) E s₂ := by
  cases tests with
  | nil => cases (show some none = some t from ht); exact LCg.block_U W hsz hIo hSt hcell hkind hx hst hfp F N hIL hI₀ off hS R hRR
  | cons c r =>
    cases r with
    | nil => cases (show some (some c) = some t from ht); exact LCt.block_T W hsz hIo hSt hcell hkind hx hst hfp F N hIL hI₀ off hS R hRR
    | cons _ _ => exact dead ht
theorem comp_any {t : Option PySem.Expr} {tests : List PySem.Expr} (ht : testsOf tests = some t) {y : Option (Str × Pos)} (hy : StoreOk y L env) {elt iter : PySem.Expr} {x : Str} {px : Pos} {scope : Scope} {cl : List (Str × Addr)} {pos pos' : Pos} {Q : Value → Shared → Prop} (hh : A.handled = none)
    (hclos : closureFor scope env = pure cl) (hcell : ∀ y ∈ scope.names, y.2 ≠ .cell) (hkind : scope.kind = .function)
    (hnames : ∀ y ∈ scope.names, y.2 = .local → scope.names.lookup y.1 = some .local) (hx : scope.names.lookup x = some .local)
    (h : wpAny (model prog w) A (eval iter env) (SrcW prog w A L env t elt x scope cl y Q) E s)
    (hs : ∀ x, foldedSetIterable iter env x = pure x) :
    wpAny (model prog w) A (comprehension (.ListComp elt [⟨.Name x px, iter, tests, 0⟩] scope pos) scope env pos' (PySem.newList []) false (eval iter env) (useOf y env)) Q E s := by
  refine wpAny_comprehension_free rfl hs hclos hkind hnames (wpAny_mono h (fun xv s₁ h₁ => ?_) fun _ _ e => e)
  cases h₁ with
  | @tup h₀ m ax its news e F N S hsz R =>
    subst e
    have hl := S.tup N
    have hlt : ax < s₁.heap.objs.size := by obtain ⟨_, e, _⟩ := hl; exact Heap.lt_size e
    refine wpAny_pyIter_tuple hl ?_
    have up : ∀ b o, s₁.heap.get? b = some o → (s₁.heap.push { cls := .type "tuple_iterator", data := .fields #[.ref ax, .int 0 0] }).get? b = some o := fun b o e => Heap.get?_push_of_some _ e
    refine block_any ht (iter := iter) (Walks.tuple hh s₁.heap.objs.size ax (Nat.ne_of_lt hlt) its) hsz (fun i h st => by obtain ⟨o, e, _⟩ := st.1; exact ⟨o, e⟩) tup_st hcell hkind hx ⟨⟨_, Heap.get?_push_size _ rfl, rfl, rfl⟩, hl.push _⟩ (fun b hb => ?_)
      (F.keeps up) (N.grown up) (Nat.ne_of_lt F.ns.lt) (next_is_new F) (fun p hp => Nat.ne_of_lt (Heap.lt_size (N p hp).1)) S (R _ ⟨_, rfl⟩) ?_
    · show b < (s₁.heap.push _).objs.size
      rw [Heap.size_push]
      rcases List.mem_cons.mp hb with rfl | hb
      · exact Nat.lt_succ_self _
      · rw [List.mem_singleton.mp hb]; exact Nat.lt_succ_of_lt hlt
    · intro D C h tk m' ys news' F' N' o1 hn hC₀ hD₀ hCL hDL hCD offC fin
      exact comp_end (s := { s₁ with heap := _ }) hy F' N' o1 hn hC₀ hCL hCD offC fin
  | @lst h₀ m ax its news e F N S hsz R =>
    subst e
    have hl := S.lst N
    have hlt : ax < s₁.heap.objs.size := by obtain ⟨_, e, _⟩ := hl; exact Heap.lt_size e
    refine wpAny_pyIter_list hl ?_
    have up : ∀ b o, s₁.heap.get? b = some o → (s₁.heap.push { cls := .type "list_iterator", data := .fields #[.ref ax, .int 0 0] }).get? b = some o := fun b o e => Heap.get?_push_of_some _ e
    refine block_any ht (iter := iter) (Walks.list hh s₁.heap.objs.size ax (Nat.ne_of_lt hlt) its) hsz (fun i h st => by obtain ⟨o, e, _⟩ := st.1; exact ⟨o, e⟩) lst_st hcell hkind hx ⟨⟨_, Heap.get?_push_size _ rfl, rfl, rfl⟩, hl.push _⟩ (fun b hb => ?_)
      (F.keeps up) (N.grown up) (Nat.ne_of_lt F.ns.lt) (next_is_new F) (fun p hp => Nat.ne_of_lt (Heap.lt_size (N p hp).1)) S (R _ ⟨_, rfl⟩) ?_
    · show b < (s₁.heap.push _).objs.size
      rw [Heap.size_push]
      rcases List.mem_cons.mp hb with rfl | hb
      · exact Nat.lt_succ_self _
      · rw [List.mem_singleton.mp hb]; exact Nat.lt_succ_of_lt hlt
    · intro D C h tk m' ys news' F' N' o1 hn hC₀ hD₀ hCL hDL hCD offC fin
      exact comp_end (s := { s₁ with heap := _ }) hy F' N' o1 hn hC₀ hCL hCD offC fin
  | @up h₀ m r a b t' u v n news e F N hr hsm hn hsz R =>
    subst e
    refine wpAny_pyIter_range hr hsm ?_
    refine block_any ht (iter := iter) (LCg.range_walks hh a n) hsz (fun i h st => ⟨_, st⟩) LCg.range_st hcell hkind hx (by show IsRangeIter _ _ _ _ _; rw [hn]; simpa using Heap.get?_push_size _ rfl) (fun b hb => ?_)
      (F.keeps fun _ _ e => Heap.get?_push_of_some _ e) (N.grown fun _ _ e => Heap.get?_push_of_some _ e) (Nat.ne_of_lt F.ns.lt) (next_is_new F) (fun p hp => Nat.ne_of_lt (Heap.lt_size (N p hp).1)) trivial (R _ ⟨_, rfl⟩) ?_
    · rw [List.mem_singleton.mp hb]
      show s₁.heap.objs.size < (s₁.heap.push _).objs.size
      rw [Heap.size_push]; exact Nat.lt_succ_self _
    · intro D C h tk m' ys news' F' N' o1 hn hC₀ hD₀ hCL hDL hCD offC fin
      exact comp_end (s := { s₁ with heap := _ }) hy F' N' o1 hn hC₀ hCL hCD offC fin
  | @down h₀ m r a b t' u v n news e F N hr hsm hn hsz R =>
    subst e
    refine wpAny_pyIter_range hr hsm ?_
    refine block_any ht (iter := iter) (down_walks hh a n) hsz (fun i h st => ⟨_, st⟩) down_st hcell hkind hx (by show IsRangeIter _ _ _ _ _; rw [hn]; simpa using Heap.get?_push_size _ rfl) (fun b hb => ?_)
      (F.keeps fun _ _ e => Heap.get?_push_of_some _ e) (N.grown fun _ _ e => Heap.get?_push_of_some _ e) (Nat.ne_of_lt F.ns.lt) (next_is_new F) (fun p hp => Nat.ne_of_lt (Heap.lt_size (N p hp).1)) trivial (R _ ⟨_, rfl⟩) ?_
    · rw [List.mem_singleton.mp hb]
      show s₁.heap.objs.size < (s₁.heap.push _).objs.size
      rw [Heap.size_push]; exact Nat.lt_succ_self _
    · intro D C h tk m' ys news' F' N' o1 hn hC₀ hD₀ hCL hDL hCD offC fin
      exact comp_end (s := { s₁ with heap := _ }) hy F' N' o1 hn hC₀ hCL hCD offC fin
end

end
-- W11
section
@[reducible] noncomputable def FC.more (Γ : FC) (e : List (Addr × Obj)) : FC := { Γ with extra := e ++ Γ.extra }
section
variable {Γ : FC} {st : St} {ρ : List Addr} {σ : List Int} {h g : Heap} {m : Str → Option Value} {os : List Obj}
theorem FSx.pre (F : FSx Γ st ρ σ h g m os) {h' : Heap} {e3 : List (Addr × Obj)} (F' : Fr g Γ.L h' m) (N' : News g Γ.L h' (e3 ++ (ρ.zip os ++ Γ.extra))) (off : ∀ q ∈ e3, q.1 ∉ ρ) : FSx (Γ.more e3) st ρ σ h' g m os where
  T := F.T
  T0 := F.T0
  B := F.B
  D := F.D
  F := F'
  N := fun p hp => N' p (by
    simp only [List.mem_append] at hp ⊢
    rcases hp with h | h | h
    · exact .inr (.inl h)
    · exact .inl h
    · exact .inr (.inr h))
  O := F.O
  len := F.len
  M := F.M
  asc := F.asc
  ap := fun q hq => by
    rcases List.mem_append.mp hq with h | h
    · exact off q h
    · exact F.ap q h
  bd := F.bd
  sm := F.sm
  Mp := F.Mp
  Z := F.Z
theorem FSx.post {e3 : List (Addr × Obj)} (F : FSx (Γ.more e3) st ρ σ h g m os) : FSx Γ st ρ σ h g m os where
  T := F.T
  T0 := F.T0
  B := F.B
  D := F.D
  F := F.F
  N := fun p hp => F.N p (by
    show p ∈ ρ.zip os ++ (e3 ++ Γ.extra)
    simp only [List.mem_append] at hp ⊢
    rcases hp with h | h
    · exact .inl h
    · exact .inr (.inr h))
  O := F.O
  len := F.len
  M := F.M
  asc := F.asc
  ap := fun q hq => F.ap q (List.mem_append_right e3 hq)
  bd := F.bd
  sm := F.sm
  Mp := F.Mp
  Z := F.Z
end
section
variable {Γ : FC} {st : St} {ρ : List Addr} {σ : List Int} {ih : Run} {sc : SC} {outs : List (RR × St)}
noncomputable def SC.withCv (sc : SC) (c : Option (Str × SV)) : SC := ⟨sc.cs, sc.cells, c, sc.lvl, sc.loop, sc.code, sc.cn⟩
noncomputable def compNext (ih : Run) (sc : SC) (t : Option PySem.Expr) (elt : PySem.Expr) (x : Str) (r ys : List SV) (st : St) : Outs := gd (!st.turn) (ih (.Comp sc t elt x r ys) st)
noncomputable def compElt (ih : Run) (sc : SC) (t : Option PySem.Expr) (elt : PySem.Expr) (x : Str) (v : SV) (r ys : List SV) (st : St) : Outs := bnd (ih (.E (sc.withCv (some (x, v))) elt) st) (rVal fun y st1 => compNext ih sc t elt x r (ys ++ [y]) st1)
noncomputable def compTest (ih : Run) (sc : SC) (t : Option PySem.Expr) (ct elt : PySem.Expr) (x : Str) (v : SV) (r ys : List SV) (st : St) : Outs := bnd (ih (.T (sc.withCv (some (x, v))) ct) st) (rTru fun b st1 => cnd b (compElt ih sc t elt x v r ys st1) (compNext ih sc t elt x r ys st1))
noncomputable def compF (ih : Run) (sc : SC) (t : Option PySem.Expr) (elt : PySem.Expr) (x : Str) (items ys : List SV) (st : St) : Outs := List.rec (ok1 (.vals ys) st) (fun v r _ => Option.rec (compElt ih sc t elt x v r ys st) (fun ct => compTest ih sc t ct elt x v r ys st) t) items
/-- e is evaluated, no exception comes of it -/
theorem seqEx (G : Good ih) {Γ : FC} {ρ : List Addr} {σ : List Int} {env : Env} {s : Shared} {X : Value → Shared → Prop} {e : PySem.Expr} {f : SV → St → Outs} {K : Value → Shared → Prop} (h : bnd (ih (.E sc e) st) (rVal f) = some outs) (hex : ∀ o ∈ outs, isExc o.1 = false) (W : WF Γ sc.lvl) (V : EnvR Γ ρ σ sc env) (F : FS Γ st ρ σ s.heap)
    (k : ∀ v a st1 ρ1 σ1 h1 tk1 l2, ρ <+: ρ1 → σ <+: σ1 → f v st1 = some l2 → (∀ o ∈ l2, o ∈ outs) → VR ρ1 σ1 v a → FS Γ st1 ρ1 σ1 h1 → K a (sat s h1 tk1)) : wpAny (model prg w) Γ.A (eval e env) K X s :=
  i_ob (fun l h hl => G.E _ _ _ _ hl Γ ρ σ _ s _ _ W V F fun o ho ρ1 σ1 h1 tk1 hr hs => ⟨fun y hy FF => by
    obtain ⟨o1, st1⟩ := o
    cases o1 <;> try exact absurd hy (fun z => z)
    obtain ⟨l2, e2, m2⟩ := (bndL_spec h _ ho).2 rfl
    exact k _ y st1 ρ1 σ1 h1 tk1 l2 hr hs e2 m2 hy FF, fun C e hC _ => by
    have := hex o ((bndL_spec h o ho).1 (by rw [hC]; rfl))
    rw [hC] at this; cases this⟩) h
theorem seqTx (G : Good ih) {Γ : FC} {ρ : List Addr} {σ : List Int} {env : Env} {s : Shared} {X : Value → Shared → Prop} {e : PySem.Expr} {f : Bool → St → Outs} {K : Bool → Shared → Prop} (h : bnd (ih (.T sc e) st) (rTru f) = some outs) (hex : ∀ o ∈ outs, isExc o.1 = false) (W : WF Γ sc.lvl) (V : EnvR Γ ρ σ sc env) (F : FS Γ st ρ σ s.heap)
    (k : ∀ a st1 ρ1 σ1 h1 tk1 l2, ρ <+: ρ1 → σ <+: σ1 → f a st1 = some l2 → (∀ o ∈ l2, o ∈ outs) → FS Γ st1 ρ1 σ1 h1 → K a (sat s h1 tk1)) : wpAny (model prg w) Γ.A (isTrue e env (eval e env)) K X s :=
  i_ob (fun l h hl => G.T _ _ _ _ hl Γ ρ σ _ _ s _ _ W V (.inr rfl) F fun o ho ρ1 σ1 h1 tk1 hr hs => ⟨fun y hy FF => by
    obtain ⟨o1, st1⟩ := o
    cases o1 <;> try exact absurd hy (fun z => z)
    obtain ⟨l2, e2, m2⟩ := (bndL_spec h _ ho).2 rfl
    cases (show y = _ from hy)
    exact k _ st1 ρ1 σ1 h1 tk1 l2 hr hs e2 m2 FF, fun C e hC _ => by
    have := hex o ((bndL_spec h o ho).1 (by rw [hC]; rfl))
    rw [hC] at this; cases this⟩) h
theorem CRest.zero {prog : Program} {A : Around} {s : Shared} {h₀ : Heap} {L : Addr} {m : Str → Option Value} {env : Env} {t : Option PySem.Expr} {elt : PySem.Expr} {x : Str} {scope : Scope} {cl : List (Str × Addr)} {S : List (Addr × Obj) → Prop} {P : Nat → Value → Prop} {Fin : List Value → List (Addr × Obj) → Prop} {i : Nat} {ys : List Value} {news : List (Addr × Obj)} (h : Fin ys news) :
    CRest prog w A h₀ L m env t elt x scope cl s S P Fin 0 i ys news := by
  cases t with
  | none => exact h
  | some ct => exact h
theorem Comp_ok (G : Good ih) {t : Option PySem.Expr} {elt : PySem.Expr} {x : Str} {items ys : List SV} (h : compF ih sc t elt x items ys st = some outs)
    (hex : ∀ o ∈ outs, isExc o.1 = false) {scope : Scope} {cl : List (Str × Addr)} (hcs : sc.cs = relabel scope Γ.env) (hk : scope.kind = .function) (hcl : CellsR ρ sc.cells cl) (hlp : sc.loop = false) (W : WF Γ sc.lvl) {m : Str → Option Value} (hpin : Γ.pin = some m)
    {s : Shared} {h₁ : Heap} {S : List (Addr × Obj) → Prop} {P : Nat → Value → Prop} {Fin : List Value → List (Addr × Obj) → Prop} {i : Nat} {vs : List Value} {os : List Obj} (F : FSx Γ st ρ σ h₁ Γ.g₀ m os) (ht : st.turn = false) (hys : F2 (VR ρ σ) ys vs)
    (hP : ∀ j sv, items[j]? = some sv → ∀ v ρ' σ', ρ <+: ρ' → σ <+: σ' → P (i + j) v → VR ρ' σ' sv v) (hS : ∀ ρ1 σ1 st1 h1 os1, ρ <+: ρ1 → FSx Γ st1 ρ1 σ1 h1 Γ.g₀ m os1 → S (ρ1.zip os1 ++ Γ.extra))
    (hFin : ∀ o ∈ outs, ∀ ρ' σ' h' os' vs', ρ <+: ρ' → σ <+: σ' → relEs ρ' σ' o.1 vs' → o.2.turn = false → FSx Γ o.2 ρ' σ' h' Γ.g₀ m os' → Fin vs' (ρ'.zip os' ++ Γ.extra)) :
    CRest prg w Γ.A Γ.g₀ Γ.L m Γ.env t elt x scope cl s S P Fin items.length i vs (ρ.zip os ++ Γ.extra) := by
  cases items with
  | nil =>
    cases h
    exact CRest.zero (hFin _ (.head _) ρ σ _ os vs (List.prefix_refl _) (List.prefix_refl _) hys ht F)
  | cons v r =>
    have rest : ∀ {st1 : St} {ρ1 : List Addr} {σ1 : List Int} {os1 : List Obj} {h2 : Heap} {vs' : List Value} {ys' : List SV} {l2 : List (RR × St)}, ρ <+: ρ1 → σ <+: σ1 → FSx Γ st1 ρ1 σ1 h2 Γ.g₀ m os1 → st1.turn = false → F2 (VR ρ1 σ1) ys' vs' → ih (.Comp sc t elt x r ys') st1 = some l2 → (∀ o ∈ l2, o ∈ outs) →
        CRest prg w Γ.A Γ.g₀ Γ.L m Γ.env t elt x scope cl s S P Fin r.length (i + 1) vs' (ρ1.zip os1 ++ Γ.extra) := fun {st1 ρ1 σ1 os1 h2 vs' ys' l2} hr hs FB ht1 hy e2 hm => by
      refine G.Comp _ _ _ _ _ _ _ _ e2 (fun o2 h2 => hex o2 (hm o2 h2)) Γ ρ1 σ1 scope cl hcs hk (hcl.mono hr) hlp W m hpin s h2 S P Fin (i + 1) _ os1 FB ht1 hy (fun j sv hj v ρ' σ' hr' hs' hPj => ?_) (fun ρ2 σ2 st2 h3 os2 hr2 => hS ρ2 σ2 st2 h3 os2 (hr.trans hr2)) fun o2 ho2 ρ' σ' h' os' vs' hr' hs' => hFin o2 (hm o2 ho2) ρ' σ' h' os' vs' (hr.trans hr') (hs.trans hs')
      exact hP (j + 1) sv (by simpa using hj) v ρ' σ' (hr.trans hr') (hs.trans hs') (by rw [show i + (j + 1) = i + 1 + j by omega]; exact hPj)
    have setup : ∀ {v' : Value} {I : Addr} {oI : Obj} {C : Addr} {oC : Obj} {D : Addr} {m₂ : Str → Option Value} {h1 : Heap} {tk : Nat}, P i v' → LCg.NsObj oC m₂ → m₂ x = some v' → Fr Γ.g₀ Γ.L h1 m → News Γ.g₀ Γ.L h1 ((I, oI) :: (C, oC) :: (D, LCg.lst vs) :: (ρ.zip os ++ Γ.extra)) → LCg.Off3 I C D (ρ.zip os ++ Γ.extra) →
        FSx (Γ.more [(I, oI), (C, oC), (D, LCg.lst vs)]) st ρ σ h1 Γ.g₀ m os ∧ EnvR (Γ.more [(I, oI), (C, oC), (D, LCg.lst vs)]) ρ σ (sc.withCv (some (x, v))) (compEnvC scope cl C Γ.env) ∧ WF (Γ.more [(I, oI), (C, oC), (D, LCg.lst vs)]) sc.lvl ∧
        ∀ {st1 : St} {ρ1 : List Addr} {σ1 : List Int} {os1 : List Obj} {h2 : Heap} {tk2 : Nat} {R : Value → List (Addr × Obj) → Prop} {y : Value}, ρ <+: ρ1 → FSx (Γ.more [(I, oI), (C, oC), (D, LCg.lst vs)]) st1 ρ1 σ1 h2 Γ.g₀ m os1 → R y (ρ1.zip os1 ++ Γ.extra) →
          LCg.CompEnd Γ.g₀ Γ.L m { s with heap := h1, toks := tk } I oI C oC D (LCg.lst vs) S R y { s with heap := h2, toks := tk2 } := by
      intro v' I oI C oC D m₂ h1 tk hPv hns hx F1 N1 off
      have offm := off.mem
      have hoff : ∀ q ∈ [(I, oI), (C, oC), (D, LCg.lst vs)], q.1 ∉ ρ := fun q hq hm => by
        obtain ⟨o, ho⟩ := zip_mem F.len hm
        have := offm _ (List.mem_append_left Γ.extra ho)
        simp only [List.mem_cons, List.not_mem_nil, or_false] at hq
        rcases hq with rfl | rfl | rfl
        · exact this.1 rfl
        · exact this.2.1 rfl
        · exact this.2.2 rfl
      have hv := hP 0 v rfl v' ρ σ (List.prefix_refl _) (List.prefix_refl _) hPv
      refine ⟨F.pre F1 N1 hoff, EnvR.comp (Γ := (Γ.more [(I, oI), (C, oC), (D, LCg.lst vs)])) hcs hk rfl hcl (.tail _ (.head _)) hns hx hv hlp, ⟨W.frames, W.hand, W.kind, W.room, W.units⟩, ?_⟩
      intro st1 ρ1 σ1 os1 h2 tk2 R y hr FX hR
      refine LCg.CompEnd.intro (s₁ := { s with heap := h1, toks := tk }) FX.F FX.N (ρ1.zip os1 ++ Γ.extra) (fun p hp => ?_) (LCg.Off3.of fun p hp => ?_) (hS ρ1 σ1 st1 h2 os1 hr FX.post) hR
      · show p ∈ ρ1.zip os1 ++ ([(I, oI), (C, oC), (D, LCg.lst vs)] ++ Γ.extra)
        simp only [List.mem_cons, List.mem_append, List.not_mem_nil, or_false] at hp ⊢
        rcases hp with h | h | h | h | h
        · exact .inr (.inl (.inl h))
        · exact .inr (.inl (.inr (.inl h)))
        · exact .inr (.inl (.inr (.inr h)))
        · exact .inl h
        · exact .inr (.inr h)
      · rcases List.mem_append.mp hp with hp | hp
        · have k := zip_key hp
          have a1 := FX.ap (I, oI) (.head _)
          have a2 := FX.ap (C, oC) (.tail _ (.head _))
          have a3 := FX.ap (D, LCg.lst vs) (.tail _ (.tail _ (.head _)))
          exact ⟨fun e => a1 (e ▸ k), fun e => a2 (e ▸ k), fun e => a3 (e ▸ k)⟩
        · exact offm p (List.mem_append_right _ hp)
    have elt' : ∀ {st1 : St} {ρ1 : List Addr} {σ1 : List Int} {l2 : List (RR × St)} {v' : Value} {I : Addr} {oI : Obj} {C : Addr} {oC : Obj} {D : Addr} {m₂ : Str → Option Value} {h1 h2 : Heap} {tk tk2 : Nat} {E' : Value → Shared → Prop} {R : Value → List (Addr × Obj) → Prop}, P i v' → LCg.NsObj oC m₂ → m₂ x = some v' → Fr Γ.g₀ Γ.L h1 m → News Γ.g₀ Γ.L h1 ((I, oI) :: (C, oC) :: (D, LCg.lst vs) :: (ρ.zip os ++ Γ.extra)) → LCg.Off3 I C D (ρ.zip os ++ Γ.extra) → ρ <+: ρ1 → σ <+: σ1 → compElt ih sc t elt x v r ys st1 = some l2 → (∀ o ∈ l2, o ∈ outs) → FS (Γ.more [(I, oI), (C, oC), (D, LCg.lst vs)]) st1 ρ1 σ1 h2 →
        (∀ y ρ2 σ2 os2 st2 ys', F2 (VR ρ2 σ2) ys' (vs ++ [y]) → ρ <+: ρ2 → σ <+: σ2 → ∀ l4, ih (.Comp sc t elt x r ys') st2 = some l4 → (∀ o ∈ l4, o ∈ outs) → st2.turn = false → (∃ h3, FSx Γ st2 ρ2 σ2 h3 Γ.g₀ m os2) → R y (ρ2.zip os2 ++ Γ.extra)) →
        wpAny (model prg w) Γ.A (eval elt (compEnvC scope cl C Γ.env)) (LCg.CompEnd Γ.g₀ Γ.L m (sat s h1 tk) I oI C oC D (LCg.lst vs) S R) E' (sat s h2 tk2) := by
      intro st1 ρ1 σ1 l2 v' I oI C oC D m₂ h1 h2 tk tk2 E' R hPv hns hx F1 N1 off hr hs h hm FF hR
      obtain ⟨_, V, W', fin⟩ := setup (tk := tk) hPv hns hx F1 N1 off
      refine seqEx (Γ := Γ.more [(I, oI), (C, oC), (D, LCg.lst vs)]) (s := sat s h2 tk2) G h (fun o ho => hex o (hm o ho)) W' (V.mono hr hs) FF fun y a st2 ρ2 σ2 h3 tk3 l4 hr2 hs2 e4 m4 hy FF => i_gd (fun e4 ht1 => ?_) e4
      obtain ⟨g, m', os1, FX⟩ := FF
      have ht1 := bnot ht1
      cases FX.T0 ht1
      cases FX.Mp m hpin
      exact fin (hr.trans hr2) FX (hR a ρ2 σ2 os1 st2 _ ((VRs.mono (hr.trans hr2) (hs.trans hs2) hys).snoc hy) (hr.trans hr2) (hs.trans hs2) l4 e4 (fun o ho => hm o (m4 o ho)) ht1 ⟨_, FX.post⟩)
    cases t with
    | none =>
      refine LCg.CompRest.succ fun v' I oI C oC D m₂ h1 tk E' hPv hns hx F1 N1 off ne => ?_
      obtain ⟨F', V, W', fin⟩ := setup (tk := tk) hPv hns hx F1 N1 off
      exact elt' (tk2 := tk) hPv hns hx F1 N1 off (List.prefix_refl _) (List.prefix_refl _) h (fun _ h => h) ⟨_, _, _, F'⟩ fun y ρ2 σ2 os2 st2 ys' hy hr hs l4 e4 m4 ht1 ⟨h3, FX⟩ => rest hr hs FX ht1 hy e4 m4
    | some ct =>
      refine LCt.CompRestT.succ fun v' I oI C oC D m₂ h1 tk E' hPv hns hx F1 N1 off ne => ?_
      obtain ⟨F', V, W', fin⟩ := setup (tk := tk) hPv hns hx F1 N1 off
      refine seqTx (Γ := Γ.more [(I, oI), (C, oC), (D, LCg.lst vs)]) (s := sat s h1 tk) G h hex W' V ⟨_, _, _, F'⟩ fun b st1 ρ1 σ1 h2 tk2 l2 hr hs e2 m2 FF => ?_
      refine i_cnd (fun e2 q => ?_) (fun e2 q => i_gd (fun e2 ht1 => ?_) e2) e2
      · rw [if_pos q]
        exact elt' (tk2 := tk2) hPv hns hx F1 N1 off hr hs e2 m2 FF fun y ρ2 σ2 os2 st2 ys' hy hr hs l4 e4 m4 ht1 ⟨h3, FX⟩ => rest hr hs FX ht1 hy e4 m4
      · rw [if_neg (by rw [q]; exact Bool.noConfusion)]
        obtain ⟨g, m', os1, FX⟩ := FF
        have ht1 := bnot ht1
        cases FX.T0 ht1
        cases FX.Mp m hpin
        exact fin hr FX (rest hr hs FX.post ht1 (VRs.mono hr hs hys) e2 m2)
end

end
-- W12
section
theorem off1_mem {D : Addr} {l : List (Addr × Obj)} (h : LCg.Off1 D l) : ∀ p ∈ l, p.1 ≠ D := by
  induction l with
  | nil => exact fun _ h => nomatch h
  | cons a r ih => exact fun p hp => (List.mem_cons.mp hp).elim (fun e => by rw [e]; exact h.1) (ih h.2 p)
noncomputable def St.re (st : St) (frz : List Nat) (tn : Bool) : St := ⟨st.loc, st.objs, st.bnd, tn, frz, st.sums⟩
noncomputable def frzOf (v : SV) : List Nat := SV.rec [] (fun _ => []) (fun _ => []) (fun _ => []) (fun _ => []) (fun i => [i]) (fun _ => []) v
noncomputable def plainIter (e : PySem.Expr) : Bool := match e with
  | .Set .. => false
  | _ => true
noncomputable def compOk (scope : Scope) (x : Str) (iter : PySem.Expr) : Bool := plainIter iter && ((scope.kind == .function) && (scope.names.all (fun y => y.2 != .cell && (y.2 != .local || scope.names.lookup y.1 == some .local)) && (scope.names.lookup x == some .local)))
noncomputable def relabS (scope cs : Scope) : Scope := relabel scope { scope := cs, locals := 0, globals := 0, cells := [] }
noncomputable def compSC (sc : SC) (scope : Scope) (cells : List (Str × Nat)) : SC := ⟨relabS scope sc.cs, cells, none, sc.lvl, false, .none, sc.cn⟩
noncomputable def rangeU (a b : Int) : Option (List SV) := gd (Builtin.Range.small a b 1 && decide (0 ≤ Builtin.Range.rangeSize a b 1)) (some ((List.range (Builtin.Range.rangeSize a b 1).toNat).map fun (i : Nat) => .int (.lit (a + (i : Int)))))
noncomputable def rangeD (a b : Int) : Option (List SV) := gd (Builtin.Range.small a b (-1) && decide (0 ≤ Builtin.Range.rangeSize a b (-1))) (some ((List.range (Builtin.Range.rangeSize a b (-1)).toNat).map fun (i : Nat) => .int (.lit (a - (i : Int)))))
/-- what a comprehension takes -/
noncomputable def itemsC (st : St) (v : SV) : Option (List SV) := onObj st v fun _ o => orE (oTup o some) (orE (oList o some) (oRange o fun a b c => orE (gd (decide (c = 1)) (rangeU a b)) (gd (decide (c = -1)) (rangeD a b))))
section
variable (ih : Run) (sc : SC)
noncomputable def compGo (cells : List (Str × Nat)) (t : Option PySem.Expr) (elt : PySem.Expr) (x : Str) (scope : Scope) (fin : List SV → St → Outs) (v : SV) (st : St) : Outs := ob (itemsC st v) fun items => ob (ih (.Comp (compSC sc scope cells) t elt x items []) (st.re (frzOf v ++ st.frz) false)) fun l =>
  gd ((l.all fun o => !(isExc o.1)) && Nat.ble items.length 1000) (bndL (rVals fun ys st2 => fin ys (st2.re st.frz st.turn)) l)
/-- a comprehension; its list is used by fin -/
noncomputable def compE (elt : PySem.Expr) (gens : List Comprehension) (scope : Scope) (st : St) (fin : List SV → St → Outs) : Outs := l1 gens fun g => eName g.target fun x _ => gd (decide (g.is_async = 0) && (compOk scope x g.iter && sc.cv.isNone)) (ob (testsOf g.ifs) fun t => ob (freeC sc.cells scope.names) fun cells =>
  bnd (ih (.E sc g.iter) st) (rVal fun v st1 => compGo ih sc cells t elt x scope fin v st1))
end
section
variable {Γ : FC} {st : St} {ρ : List Addr} {σ : List Int} {s : Shared} {X : Value → Shared → Prop} {outs : List (RR × St)} {env : Env} {ih : Run} {sc : SC}
/-- what is kept as it is -/
noncomputable abbrev Kept (fz : List (Nat × Obj)) (os : List Obj) (frz : List Nat) : Prop := ∀ q ∈ fz, os[q.1]? = some q.2 ∧ ((q.2.cls = .type "tuple" ∧ ∃ vs n, q.2.data = .seq vs n) ∨ q.1 ∈ frz)
@[reducible] noncomputable def FC.at (Γ : FC) (g : Heap) (m : Str → Option Value) (fz : List (Nat × Obj)) : FC := { Γ with g₀ := g, pin := some m, fz := fz }
theorem FSx.reG {g h : Heap} {m : Str → Option Value} {os : List Obj} {fz : List (Nat × Obj)} {tn : Bool} {frz : List Nat} (F : FSx (Γ.at g m fz) st ρ σ h g m os) (T : KtsTurn Γ.ofs Γ.g₀ g) (T0 : tn = false → g = Γ.g₀) (hp : ∀ m₀, Γ.pin = some m₀ → m = m₀) (hz : Kept Γ.fz os frz) : FSx Γ (st.re frz tn) ρ σ h g m os :=
  ⟨T, T0, F.B, F.D, F.F, F.N, F.O, F.len, F.M, F.asc, F.ap, F.bd, F.sm, hp, hz⟩
/-- what is done with the list -/
noncomputable def FinOk {β : Type} (rel : Rel β) (Γ : FC) (y : Option (Str × Pos)) (fin : List SV → St → Outs) (Q : β → Shared → Prop) (X : Value → Shared → Prop) (Kf : Value → Shared → Prop) : Prop :=
  ∀ {ys : List SV} {st : St} {l : List (RR × St)} {ρ : List Addr} {σ : List Int} {h h' g : Heap} {m : Str → Option Value} {os : List Obj} {D : Addr} {vs : List Value} {s : Shared} {tk : Nat},
    fin ys st = some l → Post rel Γ ρ σ s l Q X → FSx Γ st ρ σ h g m os → Fr g Γ.L h' (updY y m D) → News g Γ.L h' ((D, LCg.lst vs) :: (ρ.zip os ++ Γ.extra)) → (∀ p ∈ ρ.zip os ++ Γ.extra, p.1 ≠ D) → OR (ρ ++ [D]) σ (.list ys) (LCg.lst vs) →
    Kf (match y with | none => .ref D | some _ => .none) (sat s h' tk)
theorem cr_ok {β : Type} {rel : Rel β} {Q : β → Shared → Prop} {Kf : Value → Shared → Prop} {y : Option (Str × Pos)} {fin : List SV → St → Outs} (hfin : FinOk rel Γ y fin Q X Kf) (G : Good ih) {m : Str → Option Value} {st1 : St} {h1 g1 : Heap} {os1 : List Obj} {s1 : Shared} {l2 lc : List (RR × St)} {fr : List Nat} {cells : List (Str × Nat)} {cl : List (Str × Addr)} {scope : Scope} {t : Option PySem.Expr} {elt : PySem.Expr} {x : Str} {items : List SV}
    (FX1 : FSx Γ st1 ρ σ h1 g1 m os1) (hcs : sc.cs = Γ.cs)
    (hc : ih (.Comp (compSC sc scope cells) t elt x items []) (st1.re (fr ++ st1.frz) false) = some lc) (hchk : ∀ o ∈ lc, isExc o.1 = false) (hl2 : bndL (rVals fun ys st2 => fin ys (st2.re st1.frz st1.turn)) lc = some l2)
    (P1 : Post rel Γ ρ σ s1 l2 Q X) (W : WF Γ sc.lvl) (hcl : CellsR ρ cells cl) (hkind : scope.kind = .function) {S : List (Addr × Obj) → Prop} {P' : Nat → Value → Prop} {fz' : List (Nat × Obj)} (hz : Kept fz' os1 (fr ++ st1.frz)) (hsub : ∀ q ∈ Γ.fz, q ∈ fz')
    (hP : ∀ j sv, items[j]? = some sv → ∀ v ρ' σ', ρ <+: ρ' → σ <+: σ' → P' (0 + j) v → VR ρ' σ' sv v)
    (hS : ∀ ρ2 σ2 st2 h3 os2, ρ <+: ρ2 → FSx (Γ.at g1 m fz') st2 ρ2 σ2 h3 g1 m os2 → S (ρ2.zip os2 ++ Γ.extra)) :
    CR prg w Γ.A g1 Γ.L m Γ.env t elt x scope cl y Kf s1 S P' items.length (ρ.zip os1 ++ Γ.extra) := by
  rintro s₂ ⟨hh, rfl⟩
  have FC' : FSx (Γ.at g1 m fz') (st1.re (fr ++ st1.frz) false) ρ σ h1 g1 m os1 := { FX1 with T := .refl, T0 := fun _ => rfl, Mp := fun m₀ e => Option.some.inj e, Z := hz }
  refine G.Comp _ _ _ _ _ _ _ _ hc hchk (Γ.at g1 m fz') ρ σ scope cl (by show relabS scope sc.cs = _; rw [hcs]; rfl) hkind hcl rfl ⟨W.frames, W.hand, W.kind, W.room, W.units⟩ m rfl _ h1 S P' _ 0 [] os1 FC' rfl .nil hP hS fun o ho ρ' σ' h' os' vs' hr hs hrel ht' FX' => ?_
  intro D hD tk F' N' o1
  obtain ⟨o1', st2⟩ := o
  cases o1' <;> try exact absurd hrel (fun z => z)
  rename_i ys
  obtain ⟨l3, e3, m3⟩ := (bndL_spec hl2 _ ho).2 rfl
  exact hfin e3 (fun o2 h2 ρ2 σ2 hh tk2 hr2 hs2 => P1 o2 (m3 o2 h2) ρ2 σ2 hh tk2 (hr.trans hr2) (hs.trans hs2)) (FX'.reG FX1.T FX1.T0 FX1.Mp fun q hq => ⟨(FX'.Z q (hsub q hq)).1, (FX1.Z q hq).2⟩) F' N' (off1_mem o1) ⟨vs', vs'.length, rfl, VRs.mono (List.prefix_append _ _) (List.prefix_refl _) hrel⟩
theorem lit_items {n : Nat} {f : Nat → Int} {j : Nat} {sv : SV} (h : ((List.range n).map fun i => SV.int (.lit (f i)))[j]? = some sv) : sv = .int (.lit (f j)) := by
  rw [List.getElem?_map, Option.map_eq_some_iff] at h
  obtain ⟨j', hj', rfl⟩ := h
  obtain ⟨hlt, hj'⟩ := List.getElem?_eq_some_iff.mp hj'
  rw [List.getElem_range] at hj'
  rw [hj']
/-- whence a comprehension's items come -/
theorem src_ok {Kf : Value → Shared → Prop} {y : Option (Str × Pos)} {m : Str → Option Value} {h1 g1 : Heap} {os1 : List Obj} {tk1 : Nat} {v : SV} {yv : Value} {cl : List (Str × Addr)} {scope : Scope} {t : Option PySem.Expr} {elt : PySem.Expr} {x : Str} {items : List SV}
    (F : FSx Γ st ρ σ h1 g1 m os1) (hy : VR ρ σ v yv) (hit : itemsC st v = some items) (hsz : items.length ≤ sizeLine)
    (hcr : ∀ {S : List (Addr × Obj) → Prop} {P' : Nat → Value → Prop} {fz' : List (Nat × Obj)}, Kept fz' os1 (frzOf v ++ st.frz) → (∀ q ∈ Γ.fz, q ∈ fz') → (∀ j sv, items[j]? = some sv → ∀ v ρ' σ', ρ <+: ρ' → σ <+: σ' → P' (0 + j) v → VR ρ' σ' sv v) →
      (∀ ρ2 σ2 st2 h3 os2, ρ <+: ρ2 → FSx (Γ.at g1 m fz') st2 ρ2 σ2 h3 g1 m os2 → S (ρ2.zip os2 ++ Γ.extra)) → CR prg w Γ.A g1 Γ.L m Γ.env t elt x scope cl y Kf (sat s h1 tk1) S P' items.length (ρ.zip os1 ++ Γ.extra)) :
    SrcW prg w Γ.A Γ.L Γ.env t elt x scope cl y Kf yv (sat s h1 tk1) := by
  refine i_onOwn (fun i hit z => ?_) hit
  subst z
  obtain ⟨ax, hax, rfl⟩ := hy
  refine i_ob (fun so hit hso => ?_) hit
  obtain ⟨o, ho, r, hm⟩ := F.at hax hso
  have kept : Kept Γ.fz os1 ([i] ++ st.frz) := fun q hq => ⟨(F.Z q hq).1, (F.Z q hq).2.imp id (List.mem_append_right _)⟩
  have kept2 : ((o.cls = .type "tuple" ∧ ∃ vs n, o.data = .seq vs n) ∨ i ∈ [i] ++ st.frz) → Kept ((i, o) :: Γ.fz) os1 ([i] ++ st.frz) := fun h q hq => (List.mem_cons.mp hq).elim (fun e => by subst e; exact ⟨ho, h⟩) (kept q)
  have at' : ∀ {ρ2 : List Addr} {σ2 : List Int} {st2 : St} {h3 : Heap} {os2 : List Obj}, ρ <+: ρ2 → FSx (Γ.at g1 m ((i, o) :: Γ.fz)) st2 ρ2 σ2 h3 g1 m os2 → (ax, o) ∈ ρ2.zip os2 ++ Γ.extra := fun hr FX2 => List.mem_append_left _ (zip_get (pre_get hr hax) (FX2.Z _ (.head _)).1)
  refine i_or (fun hit => i_oTup (fun xs hit z => ?_) hit) (fun hit => i_or (fun hit => i_oList (fun xs hit z => ?_) hit) (fun hit => i_oRange (fun a b c hit z => i_or (fun hit => i_gd (fun hit9 hc => ?_) hit) (fun hit => i_gd (fun hit9 hc => ?_) hit) hit) hit) hit) hit
  · subst z
    cases hit
    obtain ⟨vs, rfl, hvs⟩ := r
    have hl : vs.toArray.size = items.length := by rw [List.size_toArray, ← hvs.length]
    refine SrcW.tup (ax := ax) (its := vs.toArray) (news := ρ.zip os1 ++ Γ.extra) rfl F.F F.N ⟨0, hm⟩ (hl ▸ hsz) (hl ▸ hcr (kept2 (.inl ⟨rfl, _, _, rfl⟩)) (fun q hq => .tail _ hq) (fun j sv hj v ρ' σ' hr' hs' hv => ?_) fun ρ2 σ2 st2 h3 os2 hr2 FX2 => ⟨0, at' hr2 FX2⟩)
    obtain ⟨y, hy, hr⟩ := hvs.get hj
    rw [Nat.zero_add, List.getElem?_toArray, hy] at hv
    cases hv
    exact hr.mono hr' hs'
  · subst z
    cases hit
    obtain ⟨vs, n, rfl, hvs⟩ := r
    have hl : vs.toArray.size = items.length := by rw [List.size_toArray, ← hvs.length]
    refine SrcW.lst (ax := ax) (its := vs.toArray) (news := ρ.zip os1 ++ Γ.extra) rfl F.F F.N ⟨n, hm⟩ (hl ▸ hsz) (hl ▸ hcr (kept2 (.inr (.head _))) (fun q hq => .tail _ hq) (fun j sv hj v ρ' σ' hr' hs' hv => ?_) fun ρ2 σ2 st2 h3 os2 hr2 FX2 => ⟨n, at' hr2 FX2⟩)
    obtain ⟨y, hy, hr⟩ := hvs.get hj
    rw [Nat.zero_add, List.getElem?_toArray, hy] at hv
    cases hv
    exact hr.mono hr' hs'
  · subst z
    cases of_decide_eq_true hc
    obtain ⟨t', u, v, rfl⟩ := r
    refine i_gd (fun hit8 hok => ?_) hit9
    cases hit8
    rw [Bool.and_eq_true] at hok
    rw [List.length_map, List.length_range] at hsz
    have := hcr (S := fun _ => True) (P' := fun j v => ∃ t, v = .int (a + (j : Int)) t) kept (fun q hq => hq) (fun j sv hj v ρ' σ' hr' hs' hv => by rw [lit_items hj]; rw [Nat.zero_add] at hv; obtain ⟨t, rfl⟩ := hv; exact ⟨_, _, rfl, rfl⟩) fun ρ2 σ2 st2 h3 os2 hr2 FX2 => trivial
    rw [List.length_map, List.length_range] at this
    exact SrcW.up (news := ρ.zip os1 ++ Γ.extra) rfl F.F F.N (F.N _ hm).1 hok.1 (Int.toNat_of_nonneg (of_decide_eq_true hok.2)).symm hsz this
  · subst z
    cases of_decide_eq_true hc
    obtain ⟨t', u, v, rfl⟩ := r
    refine i_gd (fun hit8 hok => ?_) hit9
    cases hit8
    rw [Bool.and_eq_true] at hok
    rw [List.length_map, List.length_range] at hsz
    have := hcr (S := fun _ => True) (P' := fun j v => ∃ t, v = .int (a - (j : Int)) t) kept (fun q hq => hq) (fun j sv hj v ρ' σ' hr' hs' hv => by rw [lit_items hj]; rw [Nat.zero_add] at hv; obtain ⟨t, rfl⟩ := hv; exact ⟨_, _, rfl, rfl⟩) fun ρ2 σ2 st2 h3 os2 hr2 FX2 => trivial
    rw [List.length_map, List.length_range] at this
    exact SrcW.down (news := ρ.zip os1 ++ Γ.extra) rfl F.F F.N (F.N _ hm).1 hok.1 (Int.toNat_of_nonneg (of_decide_eq_true hok.2)).symm hsz this
theorem compOk_ok {scope : Scope} {x : Str} {iter : PySem.Expr} (h : compOk scope x iter = true) : plainIter iter = true ∧ scope.kind = .function ∧ (∀ y ∈ scope.names, y.2 ≠ .cell ∧ (y.2 = .local → scope.names.lookup y.1 = some .local)) ∧ scope.names.lookup x = some .local := by
  obtain ⟨h1, h⟩ := Bool.and_eq_true_iff.mp h
  obtain ⟨h2, h⟩ := Bool.and_eq_true_iff.mp h
  obtain ⟨h3, h4⟩ := Bool.and_eq_true_iff.mp h
  refine ⟨h1, beq_iff_eq.mp h2, fun y hy => ?_, beq_iff_eq.mp h4⟩
  obtain ⟨h5, h6⟩ := Bool.and_eq_true_iff.mp (List.all_eq_true.mp h3 y hy)
  exact ⟨bne_iff_ne.mp h5, fun hl => beq_iff_eq.mp (((Bool.or_eq_true _ _).mp h6).resolve_left fun z => bne_iff_ne.mp z hl)⟩
theorem compE_ok {β : Type} {rel : Rel β} (hx0 : ∀ ρ σ C a, ¬ rel ρ σ (.exc C) a) {Q : β → Shared → Prop} {Kf : Value → Shared → Prop} {y : Option (Str × Pos)} {fin : List SV → St → Outs} (hfin : FinOk rel Γ y fin Q X Kf) (hy : StoreOk y Γ.L Γ.env) (G : Good ih) {elt : PySem.Expr} {gens : List Comprehension} {scope : Scope} {pos pos' : Pos} (h : compE ih sc elt gens scope st fin = some outs) (W : WF Γ sc.lvl) (V : EnvR Γ ρ σ sc env) (F : FS Γ st ρ σ s.heap) (P : Post rel Γ ρ σ s outs Q X) :
    env = Γ.env ∧ wpAny (model prg w) Γ.A (comprehension (.ListComp elt gens scope pos) scope env pos' (PySem.newList []) (firstAsync gens) (firstIter gens env) (useOf y env)) Kf X s := by
  refine i_l1 (fun g h z => i_eName (fun x px h hx => i_gd (fun h hok => i_ob (fun t h ht => i_ob (fun cells h9 hfree => ?_) h) h) h) h) h
  subst z
  obtain ⟨tg, iter, tests, as⟩ := g
  cases (show tg = _ from hx)
  obtain ⟨has, hok⟩ := Bool.and_eq_true_iff.mp hok
  cases (show as = 0 from of_decide_eq_true has)
  obtain ⟨hok, hcvn⟩ := Bool.and_eq_true_iff.mp hok
  obtain ⟨h1, h2, h3, h4⟩ := compOk_ok hok
  cases V with
  | comp hcs hk hcv => rw [hcv] at hcvn; cases hcvn
  | fn hcs hcv hcellR hcode hcn =>
    refine ⟨rfl, ?_⟩
    obtain ⟨cl, hcl, hclR⟩ := closure_ok (env := Γ.env) hcellR hfree
    refine comp_any ht hy W.hand hcl (fun y hy => (h3 y hy).1) h2 (fun y hy => (h3 y hy).2) h4 ?_ (fun v => by cases iter <;> first | rfl | cases h1)
    refine seqE G h9 W (.fn hcs hcv hcellR hcode hcn) F P fun v yv st1 ρ1 σ1 hp1 tk1 l2 hr hs e2 hyv V1 FF P1 => i_ob (fun items e2 hit => i_ob (fun lc e2 hlc => i_gd (fun e2 hchk => ?_) e2) e2) e2
    obtain ⟨hchk, hlen⟩ := Bool.and_eq_true_iff.mp hchk
    obtain ⟨g1, mm, os1, FX1⟩ := FF
    exact src_ok FX1 hyv hit (Nat.le_trans (Nat.le_of_ble_eq_true hlen) (by decide)) fun hz hsub hP hS => cr_ok hfin G FX1 hcs hlc (fun o ho => bnot (List.all_eq_true.mp hchk o ho)) e2 P1 W (hclR.mono hr) h2 hz hsub hP hS
noncomputable def lcompE (ih : Run) (sc : SC) (elt : PySem.Expr) (gens : List Comprehension) (scope : Scope) (st : St) : Outs := compE ih sc elt gens scope st fun ys st2 => newO (.list ys) st2
theorem E_ok {Q : Value → Shared → Prop} (XB : (hd.heap_1 w.params).In base) (TB : Top p loose mean mg mb base) (G : Good ih) {e : PySem.Expr} (h : evalE w.params ih sc (lcompE ih sc) e st = some outs) (W : WF Γ sc.lvl) (V : EnvR Γ ρ σ sc env) (F : FS Γ st ρ σ s.heap) (P : Post relE Γ ρ σ s outs Q X) :
    wpAny (model prg w) Γ.A (eval e env) Q X s := by
  refine E_ok0 G XB TB h W V F P fun elt gens scope pos h => ?_
  rw [eval_ListComp]
  refine (compE_ok relE_exc (y := none) (Kf := Q) ?_ trivial G h W V F P).2
  intro ys st l ρ σ h h' g m os D vs s tk e P F F' N' off hv
  cases e
  exact (P _ (.head _) (ρ ++ [D]) σ h' tk (List.prefix_append _ _) (List.prefix_refl _)).1 (.ref D) ⟨D, getLast_at (F.O.length.trans F.len.symm), rfl⟩ ⟨_, _, _, F.fresh F' N' off hv⟩
end

end
-- W13
section
section
variable (P : Params) (ih : Run) (sc : SC)
noncomputable def esF (es : List PySem.Expr) (st : St) : Outs := List.rec (ok1 (.vals []) st) (fun e r _ => gd (notStar e) (bnd (ih (.E sc e) st) (rVal fun v st1 => bnd (ih (.Es sc r) st1) (rVals fun vs st2 => ok1 (.vals (v :: vs)) st2)))) es
noncomputable def tVal (e : PySem.Expr) (st : St) : Outs := bnd (ih (.E sc e) st) (rVal fun v st1 => ob (truth v st1) fun t => ok1 (.tru t) st1)
noncomputable def tNot (x : PySem.Expr) (st : St) : Outs := bnd (ih (.T sc x) st) (rTru fun b st1 => ok1 (.tru !b) st1)
noncomputable def tAnd (vs : List PySem.Expr) (pos : Pos) (st : St) : Outs := List.rec (ok1 (.tru true) st) (fun x r _ => bnd (ih (.T sc x) st) (rTru fun b st1 => cnd b (ih (.T sc (.BoolOp .And r pos)) st1) (ok1 (.tru false) st1))) vs
noncomputable def tOr (vs : List PySem.Expr) (pos : Pos) (st : St) : Outs := List.rec (ok1 (.tru false) st) (fun x r _ => bnd (ih (.T sc x) st) (rTru fun b st1 => cnd b (ok1 (.tru true) st1) (ih (.T sc (.BoolOp .Or r pos)) st1))) vs
noncomputable def tTest (f : Bool → St → Outs) (op : CmpOp) (a b : SV) (st : St) : Outs := bnd (cmpop P op a b st) (rVal fun c st3 => ob (truth c st3) fun t => f t st3)
noncomputable def tTru (t : Bool) (st : St) : Outs := ok1 (.tru t) st
noncomputable def tCmp1 (l : PySem.Expr) (op : CmpOp) (r : PySem.Expr) (st : St) : Outs := gd (!behindInMarks op r) (bnd (ih (.E sc l) st) (rVal fun a st1 => bnd (ih (.E sc r) st1) (rVal fun b st2 => tTest P tTru op a b st2)))
noncomputable def tCmp2 (l : PySem.Expr) (o1 o2 : CmpOp) (r1 r2 : PySem.Expr) (st : St) : Outs := gd (!lastMarks [o1, o2] [r1, r2]) (bnd (ih (.E sc l) st) (rVal fun a st1 => ih (.Ch sc a [o1, o2] [r1, r2]) st1))
noncomputable def tCmp (l : PySem.Expr) (ops : List CmpOp) (rs : List PySem.Expr) (st : St) : Outs := orE (l1 ops fun op => l1 rs fun r => tCmp1 P ih sc l op r st) (l2 ops fun o1 o2 => l2 rs fun r1 r2 => tCmp2 ih sc l o1 o2 r1 r2 st)
noncomputable def tUn (op : UnaryOp) (x : PySem.Expr) (st : St) : Outs := match op with
  | .Not => tNot ih sc x st
  | _ => none
noncomputable def tBool (op : BoolOp) (vs : List PySem.Expr) (pos : Pos) (st : St) : Outs := match op with
  | .And => tAnd ih sc vs pos st
  | .Or => tOr ih sc vs pos st
set_option backward.match.sparseCases false in
noncomputable def tF (e : PySem.Expr) (st : St) : Outs := match e with
  | .UnaryOp op x _ => tUn ih sc op x st
  | .BoolOp op vs pos => tBool ih sc op vs pos st
  | .Compare l ops rs _ => tCmp P ih sc l ops rs st
  | .Name x p => tVal ih sc (.Name x p) st
  | .Attribute o n p => tVal ih sc (.Attribute o n p) st
  | .Call f as ks p => tVal ih sc (.Call f as ks p) st
  | _ => none
noncomputable def chNext (b : SV) (ops : List CmpOp) (rs : List PySem.Expr) (t : Bool) (st : St) : Outs := cnd t (ih (.Ch sc b ops rs) st) (ok1 (.tru false) st)
noncomputable def chF (a : SV) (ops : List CmpOp) (rs : List PySem.Expr) (st : St) : Outs := lc ops fun op ops => lc rs fun r rs => orE (l0 ops (l0 rs (bnd (ih (.E sc r) st) (rVal fun b st1 => tTest P tTru op a b st1)))) (lc ops fun o2 ops => lc rs fun r2 rs => bnd (ih (.E sc r) st) (rVal fun b st1 => tTest P (chNext ih sc b (o2 :: ops) (r2 :: rs)) op a b st1))
end
section
variable {Γ : FC} {st : St} {ρ : List Addr} {σ : List Int} {s : Shared} {X : Value → Shared → Prop} {outs : List (RR × St)} {env : Env} {ih : Run} {sc : SC}
theorem post_1 {α : Type} {rel : Rel α} {Q : α → Shared → Prop} {r : RR} (h : ok1 r st = some outs) (P : Post rel Γ ρ σ s outs Q X) (F : FS Γ st ρ σ s.heap) {a : α} (hv : rel ρ σ r a) (tk : Nat) : Q a { s with toks := tk } := by
  cases h
  exact post_one P (List.prefix_refl _) (List.prefix_refl _) hv F
theorem Es_ok {Q : List Value → Shared → Prop} (G : Good ih) {es : List PySem.Expr} {pos : Pos} (h : esF ih sc es st = some outs) (W : WF Γ sc.lvl) (V : EnvR Γ ρ σ sc env) (F : FS Γ st ρ σ s.heap) (P : Post relEs Γ ρ σ s outs Q X) :
    wpAny (model prg w) Γ.A (spliced (backTo pos (starEach es env))) Q X s := by
  cases es with
  | nil =>
    with_reducible refine args_nil ?_
    exact post_1 h P F F2.nil s.toks
  | cons e r =>
    refine i_gd (fun h hn => ?_) h
    (with_reducible refine args_cons ?_ (star_cons hn))
    refine seqE G h W V F P fun v a st1 ρ1 σ1 h1 tk1 l1 hr1 hs1 e1 ra V1 F1 P1 => ?_
    refine seqEs (s := sat s h1 tk1) G e1 W V1 F1 P1 fun vs xs st2 ρ2 σ2 h2 tk2 l2 hr2 hs2 e2 rv V2 F2 P2 => ?_
    exact post_1 (s := sat s h2 tk2) (r := .vals (v :: vs)) e2 P2 F2 (a := a :: xs) (.cons (ra.mono hr2 hs2) rv) tk2
theorem cmpT {Q : Bool → Shared → Prop} (hu : Γ.A.units + 100 < cLine) (XB : (hd.heap_1 w.params).In base) {op : CmpOp} {a b : SV} {x y : Value} {f : Bool → St → Outs} {K : Bool → Shared → Prop} (h : tTest w.params f op a b st = some outs) (ha : VR ρ σ a x) (hb : VR ρ σ b y) (F : FS Γ st ρ σ s.heap) (P : Post relT Γ ρ σ s outs Q X)
    (k : ∀ t st1 ρ1 σ1 h1 tk1 l2, ρ <+: ρ1 → σ <+: σ1 → f t st1 = some l2 → FS Γ st1 ρ1 σ1 h1 → Post relT Γ ρ1 σ1 (sat s h1 tk1) l2 Q X → K t (sat s h1 tk1)) :
    wpAny (model prg w) Γ.A (compareOp op x y) (fun c s₃ => wpAny (model prg w) Γ.A (truthy c) K X s₃) X s := by
  obtain ⟨l, hl, P'⟩ := post_bind (rel1 := relE) h P relE_exc
  refine wpAny_mono (cmpop_ok hu XB hl ha hb F P') (fun c s1 N => ?_) fun _ _ x => x
  obtain ⟨v, st1, ρ1, σ1, h1, tk1, l2, rfl, hr, hs, hf, ra, F1, P1⟩ := nxtV N
  exact i_ob (fun t hf ht => truth_ok ht ra F1.toBd fun tk => k t st1 ρ1 σ1 h1 tk l2 hr hs hf F1 P1) hf
theorem T_val {Q : Bool → Shared → Prop} (G : Good ih) {e : PySem.Expr} {whole : Sem Value} (h : tVal ih sc e st = some outs) (hs : selfWhole e = false) (he : isTrue e env whole = (do let v ← whole; standAt (Expr.pos e); holding [v] (truthy v))) (W : WF Γ sc.lvl) (V : EnvR Γ ρ σ sc env) (hw : selfWhole e = true ∨ whole = eval e env) (F : FS Γ st ρ σ s.heap) (P : Post relT Γ ρ σ s outs Q X) :
    wpAny (model prg w) Γ.A (isTrue e env whole) Q X s := by
  refine isTrue_plain ?_ he
  rw [hw.resolve_left (by rw [hs]; exact Bool.noConfusion)]
  exact seqE G h W V F P fun v a st1 ρ1 σ1 h1 tk1 l1 hr1 hs1 e1 ra V1 F1 P1 => i_ob (fun t e1 ht => truth_ok (s := sat s h1 tk1) ht ra F1.toBd fun tk => post_1 (s := sat s h1 tk1) (r := .tru t) e1 P1 F1 rfl tk) e1
theorem T_cmp1 {Q : Bool → Shared → Prop} (XB : (hd.heap_1 w.params).In base) (G : Good ih) {l r : PySem.Expr} {op : CmpOp} {pos : Pos} {whole : Sem Value} (h : tCmp1 w.params ih sc l op r st = some outs) (W : WF Γ sc.lvl) (V : EnvR Γ ρ σ sc env) (F : FS Γ st ρ σ s.heap) (P : Post relT Γ ρ σ s outs Q X) :
    wpAny (model prg w) Γ.A (isTrue (.Compare l [op] [r] pos) env whole) Q X s := by
  refine i_gd (fun h hm => ?_) h
  refine wpAny_isTrue_Compare1 ?_ (bnot hm)
  refine seqE G h W V F P fun a x st1 ρ1 σ1 h1 tk1 l1 hr1 hs1 e1 ra V1 F1 P1 => ?_
  refine seqE (s := sat s h1 tk1) G e1 W V1 F1 P1 fun b y st2 ρ2 σ2 h2 tk2 l2 hr2 hs2 e2 rb V2 F2 P2 => ?_
  exact cmpT W.small (s := sat s h2 tk2) XB e2 (ra.mono hr2 hs2) rb F2 P2 fun t st3 ρ3 σ3 h3 tk3 l3 hr3 hs3 e3 F3 P3 => post_1 (s := sat s h3 tk3) (r := .tru t) e3 P3 F3 rfl tk3
theorem T_cmp2 {Q : Bool → Shared → Prop} (G : Good ih) {l r1 r2 : PySem.Expr} {o1 o2 : CmpOp} {pos : Pos} {whole : Sem Value} (h : tCmp2 ih sc l o1 o2 r1 r2 st = some outs) (W : WF Γ sc.lvl) (V : EnvR Γ ρ σ sc env) (F : FS Γ st ρ σ s.heap) (P : Post relT Γ ρ σ s outs Q X) :
    wpAny (model prg w) Γ.A (isTrue (.Compare l [o1, o2] [r1, r2] pos) env whole) Q X s := by
  refine i_gd (fun h hm => ?_) h
  refine isTrue_chain ?_ (bnot hm)
  refine seqE G h W V F P fun a x st1 ρ1 σ1 h1 tk1 l1 hr1 hs1 e1 ra V1 F1 P1 => ?_
  exact G.Ch _ _ _ _ _ _ e1 _ _ _ _ _ _ (sat s h1 tk1) _ _ W V1 ra F1 P1
theorem T_bool {Q : Bool → Shared → Prop} (G : Good ih) {op : BoolOp} {vs : List PySem.Expr} {pos : Pos} {whole : Sem Value} (h : tBool ih sc op vs pos st = some outs) (W : WF Γ sc.lvl) (V : EnvR Γ ρ σ sc env) (F : FS Γ st ρ σ s.heap) (P : Post relT Γ ρ σ s outs Q X) :
    wpAny (model prg w) Γ.A (isTrue (.BoolOp op vs pos) env whole) Q X s := by
  cases op
  case And =>
    cases vs with
    | nil =>
      with_reducible refine isTrue_and_nil ?_
      exact post_1 (r := .tru true) h P F rfl s.toks
    | cons x r =>
      with_reducible refine isTrue_and ?_
      refine seqT G h W V (.inr rfl) F P fun b st1 ρ1 σ1 h1 tk1 l1 hr1 hs1 e1 V1 F1 P1 => ?_
      cases b with
      | true => exact G.T _ _ _ _ e1 _ _ _ _ _ (sat s h1 tk1) _ _ W V1 (.inl rfl) F1 P1
      | false => exact post_1 (s := sat s h1 tk1) (r := .tru false) e1 P1 F1 rfl tk1
  case Or =>
    cases vs with
    | nil =>
      with_reducible refine isTrue_or_nil ?_
      exact post_1 (r := .tru false) h P F rfl s.toks
    | cons x r =>
      with_reducible refine isTrue_or ?_
      refine seqT G h W V (.inr rfl) F P fun b st1 ρ1 σ1 h1 tk1 l1 hr1 hs1 e1 V1 F1 P1 => ?_
      cases b with
      | true => exact post_1 (s := sat s h1 tk1) (r := .tru true) e1 P1 F1 rfl tk1
      | false => exact G.T _ _ _ _ e1 _ _ _ _ _ (sat s h1 tk1) _ _ W V1 (.inl rfl) F1 P1
theorem T_ok {Q : Bool → Shared → Prop} (XB : (hd.heap_1 w.params).In base) (G : Good ih) {e : PySem.Expr} {whole : Sem Value} (h : tF w.params ih sc e st = some outs) (W : WF Γ sc.lvl) (V : EnvR Γ ρ σ sc env) (hw : selfWhole e = true ∨ whole = eval e env) (F : FS Γ st ρ σ s.heap) (P : Post relT Γ ρ σ s outs Q X) :
    wpAny (model prg w) Γ.A (isTrue e env whole) Q X s := by
  cases e
  case Name x xp => exact T_val G h rfl rfl W V hw F P
  case Attribute o n ap => exact T_val G h rfl rfl W V hw F P
  case Call f as ks cp => exact T_val G h rfl rfl W V hw F P
  case UnaryOp op x xp =>
    cases op <;> first | exact dead h | skip
    with_reducible refine isTrue_not ?_
    exact seqT G h W V (.inr rfl) F P fun b st1 ρ1 σ1 h1 tk1 l1 hr1 hs1 e1 V1 F1 P1 => post_1 (s := sat s h1 tk1) (r := .tru !b) e1 P1 F1 rfl tk1
  case BoolOp op vs bp => exact T_bool G h W V F P
  case Compare l ops rs cp => exact i_or (fun h => i_l1 (fun op h z => i_l1 (fun r h z' => by subst z z'; exact T_cmp1 XB G h W V F P) h) h) (fun h => i_l2 (fun o1 o2 h z => i_l2 (fun r1 r2 h z' => by subst z z'; exact T_cmp2 G h W V F P) h) h) h
  all_goals exact dead h
theorem Ch_ok {Q : Bool → Shared → Prop} (XB : (hd.heap_1 w.params).In base) (G : Good ih) {a : SV} {ops : List CmpOp} {rs : List PySem.Expr} {pos : Pos} {x : Value} (h : chF w.params ih sc a ops rs st = some outs) (W : WF Γ sc.lvl) (V : EnvR Γ ρ σ sc env) (ha : VR ρ σ a x) (F : FS Γ st ρ σ s.heap) (P : Post relT Γ ρ σ s outs Q X) :
    wpAny (model prg w) Γ.A (testChain pos x ops (evalEach rs env)) Q X s := by
  refine i_lc (fun op ops h z => i_lc (fun r rs h z' => i_or (fun h => i_l0 (fun h y => i_l0 (fun h9 y' => ?_) h) h) (fun h => i_lc (fun o2 ops h y => i_lc (fun r2 rs h9 y' => ?_) h) h) h) h) h
  · subst y y' z z'
    show wpAny (model prg w) Γ.A (testChain pos x [op] [eval r env]) Q X s
    with_reducible refine test_last ?_
    refine seqE G h9 W V F P fun b y st1 ρ1 σ1 h1 tk1 l1 hr1 hs1 e1 rb V1 F1 P1 => ?_
    exact cmpT W.small (s := sat s h1 tk1) XB e1 (ha.mono hr1 hs1) rb F1 P1 fun t st3 ρ3 σ3 h3 tk3 l3 hr3 hs3 e3 F3 P3 => post_1 (s := sat s h3 tk3) (r := .tru t) e3 P3 F3 rfl tk3
  · subst y y' z z'
    show wpAny (model prg w) Γ.A (testChain pos x (op :: o2 :: ops) (eval r env :: eval r2 env :: evalEach rs env)) Q X s
    with_reducible refine test_link ?_
    refine seqE G h9 W V F P fun b y st1 ρ1 σ1 h1 tk1 l1 hr1 hs1 e1 rb V1 F1 P1 => ?_
    refine cmpT W.small (s := sat s h1 tk1) XB e1 (ha.mono hr1 hs1) rb F1 P1 fun t st3 ρ3 σ3 h3 tk3 l3 hr3 hs3 e3 F3 P3 => ?_
    cases t with
    | true => exact G.Ch _ _ _ _ _ _ e3 _ _ _ _ _ _ (sat s h3 tk3) _ _ W (V1.mono hr3 hs3) (rb.mono hr3 hs3) F3 P3
    | false => exact post_1 (s := sat s h3 tk3) (r := .tru false) e3 P3 F3 rfl tk3
end

end
-- W14
section
theorem F2.reverse {α β : Type} {R : α → β → Prop} {l : List α} {m : List β} (h : F2 R l m) : F2 R l.reverse m.reverse := by
  induction h with
  | nil => exact .nil
  | cons x _ ih => rw [List.reverse_cons, List.reverse_cons]; exact ih.snoc x
set_option backward.match.sparseCases false in
noncomputable def notComp (e : PySem.Expr) : Bool := match e with
  | .ListComp .. => false
  | .SetComp .. => false
  | .DictComp .. => false
  | _ => true
/-- a comprehension's list goes straight into this name -/
noncomputable def swapN (sc : SC) (x : Str) (line : Nat) (scope : Scope) (cl : Nat) : Bool := (sc.cs.names.lookup x == some .local) && ((line == cl) && !(scope.names.any fun y => y.1 == x && (y.2 == .local || y.2 == .cell)))
set_option backward.match.sparseCases false in
noncomputable def isSw (sc : SC) (x : Str) (line : Nat) (e : PySem.Expr) : Bool := match e with
  | .ListComp _ _ scope p => swapN sc x line scope p.line
  | .SetComp .. => true
  | .DictComp .. => true
  | _ => false
theorem swaps_no {e : PySem.Expr} (h : notComp e = true) {t : Option PySem.Expr} {l : Nat} {env : Env} : swapsWith e t l env = pure false := by
  cases e <;> first | rfl | cases h
theorem swapN_eq {Γ : FC} {sc : SC} {x : Str} {px cpos : Pos} {scope : Scope} {elt : PySem.Expr} {gens : List Comprehension} {l : Nat} (hc : sc.cs = Γ.cs) (hk : Γ.cs.kind = .function) : swapsWith (.ListComp elt gens scope cpos) (some (.Name x px)) l Γ.env = pure (swapN sc x px.line scope cpos.line) := by
  have hb : Γ.env.blockKind = .function := by unfold Env.blockKind; show (if Γ.cs.kind.isAnnotationScope = true then _ else Γ.cs.kind) = _; rw [hk]; rfl
  show pure (Γ.env.blockKind == .function && Γ.env.kindOf x == some .local && px.line == cpos.line && !(scope.names.any fun y => y.1 == x && (y.2 == .local || y.2 == .cell))) = _
  rw [hb]
  unfold swapN
  rw [hc, ← Bool.and_assoc]
  rfl
theorem swaps_name {Γ : FC} {sc : SC} {x : Str} {px : Pos} {e : PySem.Expr} {l : Nat} (hc : sc.cs = Γ.cs) (hk : Γ.cs.kind = .function) (h : isSw sc x px.line e = false) : swapsWith e (some (.Name x px)) l Γ.env = pure false := by
  cases e
  case ListComp elt gens scope cpos => rw [swapN_eq hc hk, show swapN sc x px.line scope cpos.line = false from h]
  case SetComp => cases h
  case DictComp => cases h
  all_goals rfl
theorem swaps_attr {e o : PySem.Expr} {n : Str} {p : Pos} {l : Nat} {env : Env} : swapsWith e (some (.Attribute o n p)) l env = pure false := by cases e <;> rfl
theorem swaps_sub {e o i : PySem.Expr} {p : Pos} {l : Nat} {env : Env} : swapsWith e (some (.Subscript o i p)) l env = pure false := by cases e <;> rfl
theorem swaps_tup {e : PySem.Expr} {es : List PySem.Expr} {k : Nat} {p : Pos} {l : Nat} {env : Env} : swapsWithSole [.Tuple es k p] e l env = pure false := by cases e <;> rfl
theorem swapped_env {ts : List PySem.Expr} {v : PySem.Expr} : ∀ e1 e2 : Env, e1.scope = e2.scope → swappedStores ts v e1 = swappedStores ts v e2 := fun e1 e2 h => by
  cases e1; cases e2; dsimp only at h; subst h; rfl
noncomputable def semPure {α : Type} (x : Sem α) : Option α := match x with
  | .pure r => some r
  | _ => none
theorem semPure_ok {α : Type} {x : Sem α} {r : α} (h : semPure x = some r) : x = .pure r := by cases x <;> first | (cases h; rfl) | exact dead h
noncomputable def env0 (sc : SC) : Env := { scope := sc.cs, locals := 0, globals := 0, cells := [] }
noncomputable def swapOf (sc : SC) (elts : List PySem.Expr) (k : Nat) (tp : Pos) (e : PySem.Expr) : Option (Option (List Str)) := semPure (swappedStores [.Tuple elts k tp] e (env0 sc))
theorem swapOf_ok {Γ : FC} {sc : SC} {elts : List PySem.Expr} {k : Nat} {tp : Pos} {e : PySem.Expr} {r : Option (List Str)} (h : swapOf sc elts k tp e = some r) (hc : sc.cs = Γ.cs) : swappedStores [.Tuple elts k tp] e Γ.env = pure r := by
  rw [swapped_env Γ.env (env0 sc) hc.symm, semPure_ok h]; rfl
noncomputable def storeC (sc : SC) (st : St) (x : Str) (v : SV) : Option St := ob (sc.cells.lookup x) fun i => ob st.objs[i]? fun o => oCell o fun _ => gd (!st.frz.contains i) (some (st.setO i (.cell (some v))))
noncomputable def isLoc (sc : SC) (x : Str) : Bool := sc.cs.names.lookup x == some .local
noncomputable def storeS (sc : SC) (st : St) (x : Str) (v : SV) : Option St := orE (gd (isLoc sc x) (some (st.bind x v))) (gd (sc.cs.names.lookup x == some .cell) (storeC sc st x v))
noncomputable def storeAll (sc : SC) (xs : List Str) : List SV → St → Option St := List.rec (fun vs st => l0 vs (some st)) (fun x _ ih vs st => lc vs fun v vs => ob (storeS sc st x v) fun st' => ih vs st') xs
noncomputable def namesOf (l : List PySem.Expr) : Option (List Str) := List.rec (some []) (fun e _ ih => eName e fun x _ => ob ih fun l => some (x :: l)) l
noncomputable def storeL (xs : List Str) : List SV → St → St := List.rec (fun _ st => st) (fun x _ ih vs st => List.rec st (fun v vs _ => ih vs (st.bind x v)) vs) xs
section
variable {Γ : FC} {st : St} {ρ : List Addr} {σ : List Int} {s : Shared} {Q : Unit → Shared → Prop} {X : Value → Shared → Prop} {outs : List (RR × St)} {sc : SC} {A : Around}
theorem local_ok (W : Γ.cs.kind = .function) (V : ScR Γ ρ sc) (hp : Γ.pin = none) {x : Str} {v : SV} {a : Value} (hx : isLoc sc x = true) (hv : VR ρ σ v a) (F : FS Γ st ρ σ s.heap)
    (k : ∀ h' tk, FS Γ (st.bind x v) ρ σ h' → Q () (sat s h' tk)) : wpAny (model prg w) A (storeName Γ.env x a) Q X s := by
  obtain ⟨g, m, os, F⟩ := F
  exact storeX_L F.F F.N (fun h' F' N' => k h' _ ⟨_, _, _, F.loc hp hv F' N'⟩) W (by show Γ.cs.names.lookup x = _; rw [← V.cs]; exact beq_iff_eq.mp hx)
theorem storeS_ok (W : Γ.cs.kind = .function) (V : ScR Γ ρ sc) (hp : Γ.pin = none) {x : Str} {v : SV} {a : Value} {st' : St} (e : storeS sc st x v = some st') (hv : VR ρ σ v a) (F : FS Γ st ρ σ s.heap)
    (k : ∀ h' tk, FS Γ st' ρ σ h' → Q () (sat s h' tk)) : wpAny (model prg w) A (storeName Γ.env x a) Q X s := by
  refine i_or (fun e => i_gd (fun e hx => ?_) e) (fun e => i_gd (fun e hx => i_ob (fun i e hi => i_ob (fun so e hso => i_oCell (fun c e hc => i_gd (fun e hf => ?_) e) e) e) e) e) e
  · cases e
    exact local_ok W V hp hx hv F k
  · cases e
    subst hc
    obtain ⟨g, m, os, F⟩ := F
    obtain ⟨a', ha, hcl⟩ := V.cells _ _ hi
    obtain ⟨o, ho, hor, hm⟩ := F.at ha hso
    obtain ⟨v₀, hd⟩ : ∃ v₀, o.data = .cell v₀ := by
      cases c with
      | none => exact ⟨_, hor⟩
      | some c => obtain ⟨v', h1, _⟩ := hor; exact ⟨_, h1⟩
    refine storeX_C F.F F.N hcl (F.upd ha ho) hd (fun h' o' F' N' ho' => ?_) W (by show Γ.cs.names.lookup x = _; rw [← V.cs]; exact beq_iff_eq.mp hx)
    refine k h' s.toks ⟨_, _, _, F.set F' N' (so := .cell (some v)) ⟨_, ho', hv⟩ (F.free ho (fun t => ?_) (bnot hf))⟩
    obtain ⟨_, vs, n, q⟩ := t
    rw [hd] at q; cases q
/-- the targets' names, and what is stored to them -/
structure EachR (Γ : FC) (A : Around) (sc : SC) (ρ : List Addr) (σ : List Int) (Q : Unit → Shared → Prop) (X : Value → Shared → Prop) (elts : List PySem.Expr) (xs : List Str) : Prop where
  len : (assignEach elts Γ.env).length = xs.length
  idx : (assignEach elts Γ.env).findIdx? (·.1) = none
  go : ∀ {svs : List SV} {vs : List Value} {st st' : St} {s : Shared}, F2 (VR ρ σ) svs vs → storeAll sc xs svs st = some st' → FS Γ st ρ σ s.heap → (∀ h' tk, FS Γ st' ρ σ h' → Q () (sat s h' tk)) → wpAny (model prg w) A (assignInOrder ((assignEach elts Γ.env).map (·.2)) vs) Q X s
theorem each_ok (W : Γ.cs.kind = .function) (V : ScR Γ ρ sc) (hp : Γ.pin = none) {elts : List PySem.Expr} : ∀ {xs : List Str}, namesOf elts = some xs → EachR Γ A sc ρ σ Q X elts xs := by
  induction elts with
  | nil =>
    intro xs e
    cases e
    refine ⟨rfl, rfl, fun {svs vs st st' s} hv hl F k => i_l0 (fun hl z => ?_) hl⟩
    subst z
    cases hl
    cases hv
    exact assignInOrder_nil (k s.heap s.toks F)
  | cons t r ih =>
    intro xs e
    refine i_eName (fun x px e z => i_ob (fun l e9 hl => ?_) e) e
    subst z
    cases e9
    obtain ⟨h1, h2, h3⟩ := ih hl
    have he : assignEach (.Name x px :: r) Γ.env = (false, assign (.Name x px) Γ.env) :: assignEach r Γ.env := by first | rfl | simp only [assignEach]
    refine ⟨by rw [he, List.length_cons, List.length_cons, h1], by rw [he, List.findIdx?_cons]; simp [h2], fun {svs vs st st' s} hv hs F k => i_lc (fun v svs hs z => i_ob (fun st1 hs9 hs1 => ?_) hs) hs⟩
    subst z
    cases hv with
    | cons hv hr =>
      rw [he, List.map_cons]
      exact assignInOrder_cons (PyProof.Rows.assign_Name (storeS_ok W V hp hs1 hv F fun h' tk F' => h3 (s := sat s h' tk) hr hs9 F' fun h2 tk2 F2 => k h2 tk2 F2))
theorem storeAll_len {xs : List Str} : ∀ {vs : List SV} {st st' : St}, storeAll sc xs vs st = some st' → xs.length = vs.length := by
  induction xs with
  | nil => exact fun e => i_l0 (fun _ z => by subst z; rfl) e
  | cons x xs ih => exact fun e => i_lc (fun v vs e z => i_ob (fun st1 e9 _ => by subst z; rw [List.length_cons, List.length_cons, ih e9]) e) e
theorem binds_ok (W : Γ.cs.kind = .function) (V : ScR Γ ρ sc) (hp : Γ.pin = none) {xs : List Str} : ∀ {svs : List SV} {vs : List Value} {st : St} {s : Shared}, (∀ x ∈ xs, isLoc sc x = true) → F2 (VR ρ σ) svs vs → xs.length = svs.length → FS Γ st ρ σ s.heap →
    (∀ h' tk, FS Γ (storeL xs svs st) ρ σ h' → Q () (sat s h' tk)) → wpAny (model prg w) A (assignInOrder (xs.map fun n => bindName Γ.env n) vs) Q X s := by
  induction xs with
  | nil =>
    intro svs vs st s _ hv hl F k
    cases hv with
    | nil => exact assignInOrder_nil (k s.heap s.toks F)
    | cons => cases hl
  | cons x xs ih =>
    intro svs vs st s hx hv hl F k
    cases hv with
    | nil => cases hl
    | cons hv hr =>
      rw [List.map_cons]
      exact assignInOrder_cons (bindName_ (local_ok W V hp (hx x (.head _)) hv F fun h' tk F' => ih (s := sat s h' tk) (fun y hy => hx y (.tail _ hy)) hr (Nat.succ.inj hl) F' fun h2 tk2 F2 => k h2 tk2 F2))
end
theorem getL_is {ρ : List Addr} {σ : List Int} {name : Str} {es : List (Str × SV)} {ds : List DictEntry} (h : F2 (ER ρ σ) es ds) : (getL name ds).isSome = true := by
  have := getL_ok (name := name) h
  revert this
  generalize es.lookup name = z
  intro k
  cases k with
  | none h => rw [h]; rfl
  | some h _ => rw [h]; rfl
noncomputable def putE (name : Str) (v : SV) (es : List (Str × SV)) : List (Str × SV) := List.rec [(name, v)] (fun e r ih => cnd (decide (e.1 = name)) ((e.1, v) :: r) (e :: ih)) es
theorem putE_ok {ρ : List Addr} {σ : List Int} {name : Str} {v : SV} {a : Value} {hsh : Int} {t : Tok} (hv : VR ρ σ v a) {es : List (Str × SV)} {ds : List DictEntry} (h : F2 (ER ρ σ) es ds) : F2 (ER ρ σ) (putE name v es) (putL name hsh (.str name t) a ds) := by
  induction h with
  | nil => exact .cons ⟨⟨t, rfl⟩, hv⟩ .nil
  | @cons p d es ds h r ih =>
    obtain ⟨⟨t', hk⟩, hu⟩ := h
    show F2 (ER ρ σ) (cnd (decide (p.1 = name)) ((p.1, v) :: es) (p :: putE name v es)) _
    unfold putL
    rw [hk, isStr_eq]
    by_cases q : p.1 = name
    · rw [decide_eq_true q, beq_iff_eq.mpr q, if_pos rfl]
      exact .cons ⟨⟨t', rfl⟩, hv⟩ r
    · rw [decide_eq_false q, beq_eq_false_iff_ne.mpr q, if_neg Bool.noConfusion]
      exact .cons ⟨⟨t', hk⟩, hu⟩ ih
theorem putE_len {name : Str} {v : SV} {es : List (Str × SV)} : (putE name v es).length ≤ es.length + 1 := by
  induction es with
  | nil => exact Nat.le_refl _
  | cons e r ih => exact cnd_cases (P := fun (l : List (Str × SV)) => l.length ≤ (e :: r).length + 1) (fun _ => Nat.le_succ _) fun _ => Nat.succ_le_succ ih
section
variable (P : Params) (st : St)
noncomputable def setAx (o : SV) (name : Str) : Outs := onObj st o fun i so => oExc so fun C t d => gd (!d && (excSt (hd.heap_1 P) C && ((findIn (hd.heap_1 P) (.ref C) "__setattr__" == some (some (.builtin "object.__setattr__"))) && ((takerIn (hd.heap_1 P) C name == some none) && !(st.frz.contains i))))) (ok1 .next (st.setO i (.exc C t true)))
noncomputable def setAi (o : SV) (name : Str) (v : SV) : Outs := onInst st o fun _ C d es => gd ((findIn (hd.heap_1 P) (.ref C) "__setattr__" == some (some (.builtin "object.__setattr__"))) && (plainOver (hd.heap_1 P) C && ((takerIn (hd.heap_1 P) C name == some none) && (hasDictIn (hd.heap_1 P) C && (!(st.frz.contains d) && Nat.ble es.length 900))))) (ok1 .next (st.setO d (.dict (putE name v es))))
noncomputable def setA (o : SV) (name : Str) (v : SV) : Outs := orE (setAi P st o name v) (setAx P st o name)
noncomputable def putI (n : Int) (v : SV) (es : List (Int × SV)) : List (Int × SV) := List.rec [(n, v)] (fun e r ih => cnd (decide (e.1 = n)) ((e.1, v) :: r) (e :: ih)) es
/-- a store under a subscript -/
noncomputable def setSub (o i v : SV) : Outs := onInt i fun k => iLit k fun n => orE (onList st o fun j xs => gd (decide (0 ≤ n ∧ n < xs.length) && (Nat.ble xs.length 1000 && !(st.frz.contains j))) (ok1 .next (st.setO j (.list (xs.set n.toNat v)))))
  (onIdict st o fun j es => gd (Nat.ble es.length 100 && !(st.frz.contains j)) (ok1 .next (st.setO j (.idict j (putI n v es)))))
end
section
variable {Γ : FC} {st : St} {ρ : List Addr} {σ : List Int} {s : Shared} {Q : Unit → Shared → Prop} {X : Value → Shared → Prop} {outs : List (RR × St)} {sc : SC} {A : Around}
/-- one object ahead of the others -/
theorem FSx.focus {h g : Heap} {m : Str → Option Value} {os : List Obj} (F : FSx Γ st ρ σ h g m os) {i : Nat} {a : Addr} {o : Obj} (ha : ρ[i]? = some a) (ho : os[i]? = some o) : ∃ post, News g Γ.L h ((a, o) :: post) ∧ (∀ p ∈ post, p.1 ≠ a) ∧ ∀ o' p, p ∈ ρ.zip (os.set i o') ++ Γ.extra → p ∈ (a, o') :: post := by
  obtain ⟨pre, post, h1, h2, h3, h4⟩ := (F.upd ha ho).split
  have sw : ∀ {p q : Addr × Obj}, p ∈ pre ++ q :: post → p ∈ q :: (pre ++ post) := fun {p q} hp => (List.mem_append.mp hp).elim (fun h => .tail _ (List.mem_append_left _ h)) fun h => (List.mem_cons.mp h).elim (fun e => by rw [e]; exact .head _) fun h => .tail _ (List.mem_append_right _ h)
  have ws : ∀ {p q : Addr × Obj}, p ∈ q :: (pre ++ post) → p ∈ pre ++ q :: post := fun {p q} hp => (List.mem_cons.mp hp).elim (fun e => by rw [e]; exact List.mem_append_right _ (.head _)) fun h => (List.mem_append.mp h).elim (fun h => List.mem_append_left _ h) fun h => List.mem_append_right _ (.tail _ h)
  exact ⟨pre ++ post, fun p hp => F.N p (by rw [h1]; exact ws hp), fun p hp => (List.mem_append.mp hp).elim (h3 p) (h4 p), fun o' p hp => sw (by rw [← h2 o']; exact hp)⟩
theorem setA_ok (XB : (hd.heap_1 w.params).In base) {o v : SV} {x a : Value} {name : Str} (e : setA w.params st o name v = some outs) (ho : VR ρ σ o x) (hv : VR ρ σ v a) (F : FS Γ st ρ σ s.heap)
    (k : ∀ h' tk st', outs = [(.next, st')] → FS Γ st' ρ σ h' → Q () (sat s h' tk)) : wpAny (model prg w) A (setAttr x name a) Q X s := by
  obtain ⟨g, m, os, F⟩ := F
  refine i_or (fun e => ?_) (fun e => ?_) e
  · refine F.onInst ho e fun i C d es ax da ds n e hda ho2 hm hm2 hes => i_gd (fun e hc => ?_) e
    cases e
    obtain ⟨h1, hc⟩ := Bool.and_eq_true_iff.mp hc
    obtain ⟨h2, hc⟩ := Bool.and_eq_true_iff.mp hc
    obtain ⟨h3, hc⟩ := Bool.and_eq_true_iff.mp hc
    obtain ⟨h4, hc⟩ := Bool.and_eq_true_iff.mp hc
    obtain ⟨hfz, hlen⟩ := Bool.and_eq_true_iff.mp hc
    have hput := putE_ok (name := name) (hsh := PyData.keyHash w.params name) (t := s.toks + 1) hv hes
    refine set_dict F.F (F.In XB) F.N (InstAt.of_news F.N hm hm2) rfl (beq_iff_eq.mp h1) h2 (beq_iff_eq.mp h3) h4 (getL_is hes) rfl (toUpd _ (F.upd hda ho2)) ?_ fun h' F' N' => ?_
    · have h5 := hput.length
      have h6 := putE_len (name := name) (v := v) (es := es)
      have h7 := Nat.le_of_ble_eq_true hlen
      omega
    · exact k h' _ _ rfl ⟨_, _, _, F.set F' N' ⟨_, _, rfl, hput⟩ (F.free ho2 (fun t => absurd (Value.type.inj t.1) (by decide)) (bnot hfz))⟩
  · refine F.onObj ho e fun i so ax o e ha _ ho hm r => i_oExc (fun C t d e z => i_gd (fun e9 hc => ?_) e) e
    subst z
    cases e9
    obtain ⟨hd', hc1⟩ := Bool.and_eq_true_iff.mp hc
    cases bnot hd'
    obtain ⟨h1, hc2⟩ := Bool.and_eq_true_iff.mp hc1
    obtain ⟨h2, hc3⟩ := Bool.and_eq_true_iff.mp hc2
    obtain ⟨h3, h4⟩ := Bool.and_eq_true_iff.mp hc3
    obtain ⟨ta, od, hta, rfl, hod⟩ := r
    cases hod rfl
    obtain ⟨post, N1, hne, hback⟩ := F.focus ha ho
    refine exc_store F.F (F.In XB) (t := ta) N1 h1 hne (beq_iff_eq.mp h2) (beq_iff_eq.mp h3) fun d h' tk' F' N' => ?_
    exact k h' tk' _ rfl ⟨_, _, _, F.set (so := .exc C t true) (o' := { excObj C ta with dict := some d }) F' (fun p hp => N' p (hback _ p hp)) ⟨ta, some d, hta, rfl, fun z => by cases z⟩ (F.free ho (fun z => by obtain ⟨z, _⟩ := z; cases z) (bnot h4))⟩
theorem setL_is {v : Value} {l : List Value} : ∀ {k : Nat}, k < l.length → ki_setL l k v = some (l.set k v) := by
  induction l with
  | nil => intro k h; exact absurd h (Nat.not_lt_zero _)
  | cons x r ih =>
    intro k h
    cases k with
    | zero => rfl
    | succ k => unfold ki_setL; rw [ih (Nat.lt_of_succ_lt_succ h)]; rfl
theorem stored_cons {q : Int × Value} {kvs : List (Int × Value)} {n : Int} {a : Value} (hn : ((q :: kvs).map (·.1)).Nodup) : stored (q :: kvs) n a = if q.1 = n then (q.1, a) :: kvs else q :: stored kvs n a := by
  unfold stored
  by_cases e : q.1 = n
  · have h1 : ∀ p ∈ kvs, (if p.1 = n then (p.1, a) else p) = p := fun p hp => by
      rw [if_neg]
      intro z
      rw [List.map_cons, List.nodup_cons] at hn
      exact hn.1 (by rw [e, ← z]; exact List.mem_map_of_mem hp)
    simp only [List.any_cons, e, decide_true, Bool.true_or, if_true, List.map_cons]
    rw [List.map_congr_left h1, List.map_id']
  · simp only [List.any_cons, e, decide_false, Bool.false_or, if_false, List.map_cons]
    split <;> simp
theorem putI_ok {n : Int} {v : SV} {a : Value} (hv : VR ρ σ v a) {es : List (Int × SV)} {kvs : List (Int × Value)} (h : F2 (KR ρ σ) es kvs) : (kvs.map (·.1)).Nodup → F2 (KR ρ σ) (putI n v es) (stored kvs n a) := by
  induction h with
  | nil => exact fun _ => .cons ⟨rfl, hv⟩ .nil
  | @cons p q es kvs hp hr ih =>
    intro hn
    rw [stored_cons hn]
    show F2 (KR ρ σ) (cnd (decide (p.1 = n)) ((p.1, v) :: es) (p :: putI n v es)) _
    by_cases e : q.1 = n
    · rw [decide_eq_true (hp.1.trans e), if_pos e]
      exact .cons ⟨hp.1, hv⟩ hr
    · rw [decide_eq_false (fun z => e (hp.1.symm.trans z)), if_neg e]
      exact .cons hp (ih (List.nodup_cons.mp hn).2)
theorem setSub_ok {o i v : SV} {x z a : Value} (e : setSub st o i v = some outs) (ho : VR ρ σ o x) (hi : VR ρ σ i z) (hv : VR ρ σ v a) (F : FS Γ st ρ σ s.heap)
    (k : ∀ h' tk st', outs = [(.next, st')] → FS Γ st' ρ σ h' → Q () (sat s h' tk)) : wpAny (model prg w) A (setItem x z a) Q X s := by
  obtain ⟨g, m, os, F⟩ := F
  refine hi.onInt e fun n y t e hn => hn.onLit e fun e => ?_
  refine i_or (fun e => ?_) (fun e => ?_) e
  · refine F.onList ho e fun j xs ax vs m' e hax ho hm hvs => i_gd (fun e hc => ?_) e
    cases e
    obtain ⟨c1, hc⟩ := Bool.and_eq_true_iff.mp hc
    obtain ⟨c2, c3⟩ := Bool.and_eq_true_iff.mp hc
    obtain ⟨c0, c1⟩ := of_decide_eq_true c1
    have c2 := Nat.le_of_ble_eq_true c2
    have hl := hvs.length
    refine ki_set (its := vs.toArray) (n := m') (q := vs.set y.toNat a) F.F F.N c0 (by omega) (by rw [List.toList_toArray]; exact setL_is (by omega)) (toUpd _ (F.upd hax ho)) fun h' F' N' => ?_
    exact k h' s.toks _ rfl ⟨_, _, _, F.set F' N' ⟨_, _, rfl, hvs.set hv⟩ (F.free ho (fun z => absurd (Value.type.inj z.1) (by decide)) (bnot c3))⟩
  · refine F.onIdict ho e fun j es d o kvs e hd ho hm hn hD hk => i_gd (fun e hc => ?_) e
    cases e
    obtain ⟨c2, c3⟩ := Bool.and_eq_true_iff.mp hc
    have hnd : (kvs.map (·.1)).Nodup := by obtain ⟨_, _, _, _, _, _, h⟩ := hD prg w; exact h
    refine kda_set (knd := PySem.intKind prg w) F.F F.N (F.upd hd ho) (hD prg w) (intKind_is _ _ _ _) (by rw [← hk.length]; exact Nat.le_trans (Nat.le_of_ble_eq_true c2) (by decide)) fun h' o' F' N' hd' => ?_
    refine k h' _ _ rfl ⟨_, _, _, F.set F' N' ⟨⟨d, hd, beq_eq_false_iff_ne.mp hn⟩, _, fun _ _ => dict_any hd', putI_ok hv hk hnd⟩ (F.free ho (fun z => ?_) (bnot c3))⟩
    obtain ⟨_, _, ⟨z2, _⟩, _⟩ := hD prg w
    rw [z.1] at z2
    exact absurd (Value.type.inj z2) (by decide)
end

end
-- W15
section
noncomputable def rNext (f : St → Outs) (r : RR) (st : St) : Outs := RR.rec (fun _ => none) (fun _ => none) (fun _ => none) (f st) (fun v => ok1 (.ret v) st) (fun _ => none) r
section
variable (P : Params) (ih : Run) (sc : SC)
noncomputable def sRet (e : PySem.Expr) (st : St) : Outs := bnd (ih (.E sc e) st) (rVal fun v st1 => ok1 (.ret v) st1)
noncomputable def sExpr (e : PySem.Expr) (st : St) : Outs := gd (notComp e) (bnd (ih (.E sc e) st) (rVal fun _ st1 => ok1 .next st1))
noncomputable def sIf (t : PySem.Expr) (a b : List Stmt) (st : St) : Outs := bnd (ih (.T sc t) st) (rTru fun c st1 => cnd c (ih (.Ss sc a) st1) (ih (.Ss sc b) st1))
noncomputable def aName (x : Str) (e : PySem.Expr) (st : St) : Outs := bnd (ih (.E sc e) st) (rVal fun v st1 => ob (storeS sc st1 x v) fun st2 => ok1 .next st2)
noncomputable def aAttr (o : PySem.Expr) (name : Str) (e : PySem.Expr) (st : St) : Outs := bnd (ih (.E sc e) st) (rVal fun v st1 => bnd (ih (.E sc o) st1) (rVal fun ov st2 => setA P st2 ov name v))
noncomputable def aSub (o i : PySem.Expr) (e : PySem.Expr) (st : St) : Outs := bnd (ih (.E sc e) st) (rVal fun v st1 => bnd (ih (.E sc o) st1) (rVal fun ov st2 => bnd (ih (.E sc i) st2) (rVal fun iv st3 => setSub st3 ov iv v)))
noncomputable def seqOf (st : St) (v : SV) : Option (List SV) := orE (onTup st v fun _ xs => some xs) (onList st v fun _ xs => some xs)
noncomputable def aTup0 (elts : List PySem.Expr) (e : PySem.Expr) (st : St) : Outs := ob (namesOf elts) fun xs => bnd (ih (.E sc e) st) (rVal fun v st1 => ob (seqOf st1 v) fun vs => ob (storeAll sc xs vs st1) fun st2 => ok1 .next st2)
noncomputable def aTup1 (xs : List Str) (e : PySem.Expr) (st : St) : Outs := gd (xs.all (isLoc sc)) (bnd (ih (.E sc e) st) (rVal fun v st1 => onTup st1 v fun _ vs => gd (Nat.beq xs.length vs.length) (ok1 .next (storeL xs.reverse vs.reverse st1))))
noncomputable def aTup (elts : List PySem.Expr) (k : Nat) (tp : Pos) (e : PySem.Expr) (st : St) : Outs := ob (swapOf sc elts k tp e) fun r => Option.rec (aTup0 ih sc elts e st) (fun xs => aTup1 ih sc xs e st) r
noncomputable def finS (x : Str) (ys : List SV) (st : St) : Outs := ok1 .next ((st.addO (.list ys)).bind x (.own st.objs.length))
set_option backward.match.sparseCases false in
noncomputable def aComp (x : Str) (line : Nat) (e : PySem.Expr) (st : St) : Outs := match e with
  | .ListComp elt gens scope p => gd (swapN sc x line scope p.line) (compE ih sc elt gens scope st (finS x))
  | _ => none
set_option backward.match.sparseCases false in
noncomputable def sOne (t : PySem.Expr) (e : PySem.Expr) (st : St) : Outs := match t with
  | .Name x px => orE (gd (!isSw sc x px.line e) (aName ih sc x e st)) (aComp ih sc x px.line e st)
  | .Attribute o name _ => aAttr P ih sc o name e st
  | .Subscript o i _ => aSub ih sc o i e st
  | .Tuple elts k tp => aTup ih sc elts k tp e st
  | _ => none
noncomputable def sAug (x : Str) (op : Operator) (e : PySem.Expr) (st : St) : Outs := gd (isAdd op && isLoc sc x) (ob (st.loc.lookup x) fun o => onInt o fun old => bnd (ih (.E sc e) st) (rVal fun v st1 => onInt v fun b => bnd (binI st1 .Add old b) (rVal fun r st2 => ok1 .next (st2.bind x r))))
noncomputable def ssF (l : List Stmt) (st : St) : Outs := List.rec (ok1 .next st) (fun s r _ => bnd (ih (.S sc s) st) (rNext (ih (.Ss sc r)))) l
end
section
variable {Γ : FC} {st : St} {ρ : List Addr} {σ : List Int} {s : Shared} {X : Value → Shared → Prop} {outs : List (RR × St)} {ih : Run} {sc : SC}
theorem post_nx {α : Type} {rel : Rel α} {Q : α → Shared → Prop} {r : RR} (P : Post rel Γ ρ σ s [(r, st)] Q X) {h' : Heap} (F : FS Γ st ρ σ h') {a : α} (hv : rel ρ σ r a) (tk : Nat) : Q a (sat s h' tk) :=
  post_one P (List.prefix_refl _) (List.prefix_refl _) hv F
theorem addI_ok {Q : Value → Shared → Prop} {a b : SI} {x y : Int} (e : binI st .Add a b = some outs) (ha : SIR σ a x) (hb : SIR σ b y) (F : FS Γ st ρ σ s.heap) (P : Post relE Γ ρ σ s outs Q X) (t' : Tok) (tk : Nat) : Q (.int (x + y) t') { s with toks := tk } :=
  i_or (fun e => i_ob (fun r e hr => by
    obtain ⟨z, h1, h2⟩ := exI_ok F.toBd hr ha hb
    cases h1
    exact post_v e P F (x := .int (x + y) t') ⟨_, t', rfl, h2⟩ tk) e) (fun e => i_ob (fun r e hr => i_ob (fun p hr hp => i_ob (fun q hr hq => by
    cases hr
    have h1 := siB_ok F.toBd hp ha
    have h2 := siB_ok F.toBd hq hb
    refine newI_ok e ⟨fun l e => ?_, fun l e => ?_⟩ F P <;> obtain ⟨v, v', k1, k2, rfl⟩ := map2_some e
    · exact Int.add_le_add (h1.1 _ k1) (h2.1 _ k2)
    · exact Int.add_le_add (h1.2 _ k1) (h2.2 _ k2)) hr) hr) e) e
theorem nxtS {Q : Flow → Shared → Prop} {f : St → Outs} {a : Flow} {s1 : Shared} {K : Flow → Shared → Prop} (N : Nxt relS relS Γ ρ σ s (rNext f) Q X a s1) (k1 : ∀ st1 ρ1 σ1 h1 tk1 l2, ρ <+: ρ1 → σ <+: σ1 → f st1 = some l2 → FS Γ st1 ρ1 σ1 h1 → Post relS Γ ρ1 σ1 (sat s h1 tk1) l2 Q X → K .next (sat s h1 tk1)) (k2 : ∀ y h1 tk1, Q (.ret y) (sat s h1 tk1) → K (.ret y) (sat s h1 tk1)) : K a s1 := by
  obtain ⟨q, st1, ρ1, σ1, h1, tk1, l2, rfl, hr, hs, hf, ra, F1, P1⟩ := N
  cases q <;> try exact absurd ra (fun z => z)
  · cases ra
    exact k1 st1 ρ1 σ1 h1 tk1 l2 hr hs hf F1 P1
  · obtain ⟨y, rfl, hy⟩ := ra
    exact k2 y h1 tk1 (post_1 (s := sat s h1 tk1) hf P1 F1 (a := .ret y) ⟨_, rfl, hy⟩ tk1)
variable {Q : Flow → Shared → Prop} (G : Good ih)
include G
theorem S_ret {e : PySem.Expr} {pos : Pos} (h : sRet ih sc e st = some outs) (W : WF Γ sc.lvl) (V : ScR Γ ρ sc) (F : FS Γ st ρ σ s.heap) (P : Post relS Γ ρ σ s outs Q X) : wpAny (model prg w) Γ.A (exec (.Return (some e) pos) Γ.env) Q X s := by
  with_reducible refine wpAny_Return_some ?_
  exact seqE G h W V.env F P fun v a st1 ρ1 σ1 h1 tk1 l1 hr1 hs1 e1 ra V1 F1 P1 => post_1 (s := sat s h1 tk1) (r := .ret v) e1 P1 F1 (a := .ret a) ⟨_, rfl, ra⟩ tk1
theorem S_expr {e : PySem.Expr} {pos : Pos} (h : sExpr ih sc e st = some outs) (W : WF Γ sc.lvl) (V : ScR Γ ρ sc) (F : FS Γ st ρ σ s.heap) (P : Post relS Γ ρ σ s outs Q X) : wpAny (model prg w) Γ.A (exec (.Expr e pos) Γ.env) Q X s := by
  refine i_gd (fun h hn => ?_) h
  (with_reducible refine wpAny_Expr_any ?_ ?_ (swaps_no hn))
  · exact seqE G h W V.env F P fun v a st1 ρ1 σ1 h1 tk1 l1 hr1 hs1 e1 ra V1 F1 P1 => post_1 (s := sat s h1 tk1) (r := .next) e1 P1 F1 (a := .next) rfl tk1
  · show (Γ.cs.kind == _ && _) = false
    rw [W.kind]; rfl
theorem S_if {c : PySem.Expr} {a b : List Stmt} {pos : Pos} (h : sIf ih sc c a b st = some outs) (W : WF Γ sc.lvl) (V : ScR Γ ρ sc) (hX : sc.loop = true → PassesOwn (model prg w) Γ.A Γ.env X) (hp : Γ.pin = none) (F : FS Γ st ρ σ s.heap) (P : Post relS Γ ρ σ s outs Q X) : wpAny (model prg w) Γ.A (exec (.If c a b pos) Γ.env) Q X s := by
  with_reducible refine wpAny_If ?_
  refine seqT G h W V.env (.inr rfl) F P fun b st1 ρ1 σ1 h1 tk1 l1 hr1 hs1 e1 V1 F1 P1 => ?_
  cases b with
  | true => exact G.Ss _ _ _ _ e1 _ _ _ (sat s h1 tk1) _ _ W (V.mono hr1) hX hp F1 P1
  | false => exact G.Ss _ _ _ _ e1 _ _ _ (sat s h1 tk1) _ _ W (V.mono hr1) hX hp F1 P1
theorem S_name {x : Str} {px pos : Pos} {e : PySem.Expr} (h : aName ih sc x e st = some outs) (hn : isSw sc x px.line e = false) (W : WF Γ sc.lvl) (V : ScR Γ ρ sc) (hp : Γ.pin = none) (F : FS Γ st ρ σ s.heap) (P : Post relS Γ ρ σ s outs Q X) : wpAny (model prg w) Γ.A (exec (.Assign [.Name x px] e pos) Γ.env) Q X s := by
  (with_reducible refine wpAny_Assign_Name ?_ (swaps_name V.cs W.kind hn))
  exact seqE G h W V.env F P fun v a st1 ρ1 σ1 h1 tk1 l1 hr1 hs1 e1 ra V1 F1 P1 => i_ob (fun st2 e1 hs2 => storeS_ok (s := sat s h1 tk1) W.kind (V.mono hr1) hp hs2 ra F1 fun h' tk F' => by
    cases e1
    exact post_nx P1 F' (a := .next) rfl tk) e1
theorem S_attr (XB : (hd.heap_1 w.params).In base) {o e : PySem.Expr} {name : Str} {ap pos : Pos} (h : aAttr w.params ih sc o name e st = some outs) (W : WF Γ sc.lvl) (V : ScR Γ ρ sc) (F : FS Γ st ρ σ s.heap) (P : Post relS Γ ρ σ s outs Q X) : wpAny (model prg w) Γ.A (exec (.Assign [.Attribute o name ap] e pos) Γ.env) Q X s := by
  (with_reducible refine plainObj_wpAny_Assign_Attribute ?_ swaps_attr)
  refine seqE G h W V.env F P fun v a st1 ρ1 σ1 h1 tk1 l1 hr1 hs1 e1 ra V1 F1 P1 => ?_
  refine seqE (s := sat s h1 tk1) G e1 W V1 F1 P1 fun ov x st2 ρ2 σ2 h2 tk2 l2 hr2 hs2 e2 rx V2 F2' P2 => ?_
  exact setA_ok (s := sat s h2 tk2) XB e2 rx (ra.mono hr2 hs2) F2' fun h' tk st' eo F' => by
    subst eo
    exact post_nx P2 F' (a := .next) rfl tk
theorem S_sub {o i e : PySem.Expr} {ip pos : Pos} (h : aSub ih sc o i e st = some outs) (W : WF Γ sc.lvl) (V : ScR Γ ρ sc) (F : FS Γ st ρ σ s.heap) (P : Post relS Γ ρ σ s outs Q X) : wpAny (model prg w) Γ.A (exec (.Assign [.Subscript o i ip] e pos) Γ.env) Q X s := by
  (with_reducible refine wpAny_Assign_Subscript ?_ swaps_sub)
  refine seqE G h W V.env F P fun v a st1 ρ1 σ1 h1 tk1 l1 hr1 hs1 e1 ra V1 F1 P1 => ?_
  refine seqE (s := sat s h1 tk1) G e1 W V1 F1 P1 fun ov x st2 ρ2 σ2 h2 tk2 l2 hr2 hs2 e2 rx V2 F2' P2 => ?_
  refine seqE (s := sat s h2 tk2) G e2 W V2 F2' P2 fun iv z st3 ρ3 σ3 h3 tk3 l3 hr3 hs3 e3 rz V3 F3' P3 => ?_
  exact setSub_ok (s := sat s h3 tk3) e3 (rx.mono hr3 hs3) rz (ra.mono (hr2.trans hr3) (hs2.trans hs3)) F3' fun h' tk st' eo F' => by
    subst eo
    exact post_nx P3 F' (a := .next) rfl tk
theorem S_tup0 {elts : List PySem.Expr} {k : Nat} {tp pos : Pos} {e : PySem.Expr} (h : aTup0 ih sc elts e st = some outs) (hsw : swapOf sc elts k tp e = some none) (W : WF Γ sc.lvl) (V : ScR Γ ρ sc) (hp : Γ.pin = none) (F : FS Γ st ρ σ s.heap) (P : Post relS Γ ρ σ s outs Q X) : wpAny (model prg w) Γ.A (exec (.Assign [.Tuple elts k tp] e pos) Γ.env) Q X s := by
  refine i_ob (fun xs h hxs => ?_) h
  refine Assign_Tuple ?_ swaps_tup (swapOf_ok hsw V.cs)
  refine seqE G h W V.env F P fun v a st1 ρ1 σ1 h1 tk1 l1 hr1 hs1 e1 ra V1 F1 P1 => i_ob (fun vs e1 hvs => i_ob (fun st2 e1 hst2 => ?_) e1) e1
  have hl := storeAll_len hst2
  cases e1
  have E := each_ok (A := Γ.A) (ρ := ρ1) (σ := σ1) (Q := fun _ => Q .next) (X := X) W.kind (V.mono hr1) hp hxs
  obtain ⟨g, m, os, FX⟩ := F1
  refine i_or (fun hvs => ?_) (fun hvs => ?_) hvs
  · refine FX.onTup ra hvs fun i ys ax xv hys hax hm hxv => ?_
    cases hys
    refine unpackN_ (s := sat s h1 tk1) FX.F FX.N (FX.N.isTup hm) W.hand (by rw [E.len, hl, hxv.length, List.size_toArray]) E.idx fun h' F' N' => ?_
    exact E.go (s := sat s h' tk1) hxv hst2 ⟨_, _, _, FX.moved F' N'⟩ fun h2 tk2 F2 => post_nx P1 F2 (a := .next) rfl tk2
  · refine FX.onList ra hvs fun i ys ax xv n hys hax ho hm hxv => ?_
    cases hys
    refine kun_list (s := sat s h1 tk1) FX.F FX.N (FX.N.isList hm) W.hand (by rw [E.len, hl, hxv.length, List.size_toArray]) E.idx fun h' F' N' => ?_
    exact E.go (s := sat s h' tk1) hxv hst2 ⟨_, _, _, FX.moved F' N'⟩ fun h2 tk2 F2 => post_nx P1 F2 (a := .next) rfl tk2
theorem S_tup1 {elts : List PySem.Expr} {k : Nat} {tp pos : Pos} {e : PySem.Expr} {xs : List Str} (h : aTup1 ih sc xs e st = some outs) (hsw : swapOf sc elts k tp e = some (some xs)) (W : WF Γ sc.lvl) (V : ScR Γ ρ sc) (hp : Γ.pin = none) (F : FS Γ st ρ σ s.heap) (P : Post relS Γ ρ σ s outs Q X) : wpAny (model prg w) Γ.A (exec (.Assign [.Tuple elts k tp] e pos) Γ.env) Q X s := by
  refine i_gd (fun h hall => ?_) h
  refine Assign_Tuple_swapped ?_ swaps_tup (swapOf_ok hsw V.cs)
  refine seqE G h W V.env F P fun v a st1 ρ1 σ1 h1 tk1 l1 hr1 hs1 e1 ra V1 F1 P1 => ?_
  obtain ⟨g, m, os, FX⟩ := F1
  refine FX.onTup ra e1 fun i vs ax xv e1 hax hm hxv => i_gd (fun e1 hl => ?_) e1
  have hl := Nat.eq_of_beq_eq_true hl
  cases e1
  refine unpackItemsN_ (s := sat s h1 tk1) FX.F FX.N (FX.N.isTup hm) W.hand (by rw [hl, hxv.length, List.size_toArray]) fun h' F' N' => ?_
  exact binds_ok (s := sat s h' tk1) (svs := vs.reverse) (vs := xv.reverse) W.kind (V.mono hr1) hp (fun x hx => List.all_eq_true.mp hall x (List.mem_reverse.mp hx)) hxv.reverse (by rw [List.length_reverse, List.length_reverse, hl]) ⟨_, _, _, FX.moved F' N'⟩ fun h2 tk2 F2 => post_nx P1 F2 (a := .next) rfl tk2
theorem S_comp {elt : PySem.Expr} {gens : List Comprehension} {scope : Scope} {x : Str} {px cpos pos : Pos} (h : compE ih sc elt gens scope st (finS x) = some outs) (hn : swapN sc x px.line scope cpos.line = true) (W : WF Γ sc.lvl) (V : ScR Γ ρ sc) (hp : Γ.pin = none) (F : FS Γ st ρ σ s.heap) (P : Post relS Γ ρ σ s outs Q X) :
    wpAny (model prg w) Γ.A (exec (.Assign [.Name x px] (.ListComp elt gens scope cpos) pos) Γ.env) Q X s := by
  have hsw : swapsWith (.ListComp elt gens scope cpos) (some (.Name x px)) pos.line Γ.env = pure true := by rw [swapN_eq V.cs W.kind, hn]
  rw [exec_Assign_Name_used _ _ _ _ hsw]
  refine wpAny_bind (wpAny_standAt (wpAny_bind ?_))
  show wpAny (model prg w) Γ.A (do let _ ← comprehension (.ListComp elt gens scope cpos) scope Γ.env (firstIterPos gens cpos) (PySem.newList []) (firstAsync gens) (firstIter gens Γ.env) (useOf (some (x, px)) Γ.env)) _ _ s
  have hx : Γ.env.kindOf x = some .local := by
    show Γ.cs.names.lookup x = _
    rw [← V.cs]; exact beq_iff_eq.mp (Bool.and_eq_true_iff.mp hn).1
  refine wpAny_bind (wpAny_mono (compE_ok relS_exc (y := some (x, px)) (Kf := fun _ s' => Q .next s') ?_ ⟨rfl, hx, by show (Γ.cs.kind == _ || (Γ.cs.kind == _ && _)) = false; rw [W.kind]; rfl⟩ G h W V.env F P).2 (fun _ s' hq => wpAny_pure (wpAny_pure hq)) fun _ _ e => e)
  intro ys st l ρ σ h h' g m os D vs s tk e P F F' N' off hv
  cases e
  refine (P _ (.head _) (ρ ++ [D]) σ h' tk (List.prefix_append _ _) (List.prefix_refl _)).1 .next rfl ⟨_, _, _, F.fresh0 F' N' off hv (fun y u e => ?_) (fun m₀ e => by rw [hp] at e; cases e)⟩
  rw [List.lookup_cons] at e
  by_cases q : y = x
  · rw [beq_iff_eq.mpr q] at e
    cases e
    exact ⟨.ref D, if_pos q, D, getLast_at (F.O.length.trans F.len.symm), rfl⟩
  · rw [beq_eq_false_iff_ne.mpr q] at e
    obtain ⟨v', h1, h2⟩ := F.M y u e
    exact ⟨v', (if_neg q).trans h1, h2.mono (List.prefix_append _ _) (List.prefix_refl _)⟩
theorem S_one (XB : (hd.heap_1 w.params).In base) {tg e : PySem.Expr} {pos : Pos} (h : sOne w.params ih sc tg e st = some outs) (W : WF Γ sc.lvl) (V : ScR Γ ρ sc) (hp : Γ.pin = none) (F : FS Γ st ρ σ s.heap) (P : Post relS Γ ρ σ s outs Q X) : wpAny (model prg w) Γ.A (exec (.Assign [tg] e pos) Γ.env) Q X s := by
  cases tg <;> first | exact dead h | skip
  case Name x px =>
    refine i_or (fun h => i_gd (fun h hn => S_name G h (bnot hn) W V hp F P) h) (fun h => ?_) h
    cases e <;> first | exact dead h | exact i_gd (fun h hn => S_comp G h hn W V hp F P) h
  case Attribute o name ap => exact S_attr G XB h W V F P
  case Subscript o i ip => exact S_sub G h W V F P
  case Tuple elts k tp =>
    refine i_ob (fun r h hsw => ?_) h
    cases r with
    | none => exact S_tup0 G h hsw W V hp F P
    | some xs => exact S_tup1 G h hsw W V hp F P
theorem S_aug {x : Str} {px pos : Pos} {op : Operator} {e : PySem.Expr} (h : sAug ih sc x op e st = some outs) (W : WF Γ sc.lvl) (V : ScR Γ ρ sc) (hp : Γ.pin = none) (F : FS Γ st ρ σ s.heap) (P : Post relS Γ ρ σ s outs Q X) : wpAny (model prg w) Γ.A (exec (.AugAssign (.Name x px) op e pos) Γ.env) Q X s := by
  refine i_gd (fun h hc => i_ob (fun o h hold => i_onInt (fun old h9 z => ?_) h) h) h
  subst z
  obtain ⟨ho, hx⟩ := Bool.and_eq_true_iff.mp hc
  cases isAdd_ok ho
  obtain ⟨g, m, os, FX⟩ := F
  obtain ⟨a0, hm0, ⟨n0, t0, rfl, hn0⟩⟩ := FX.M x _ hold
  with_reducible refine wpAny_AugAssign_Name ?_
  refine wpAny_loadName_local W.kind (by show Γ.cs.names.lookup x = _; rw [← V.cs]; exact beq_iff_eq.mp hx) FX.F.ns hm0 ?_
  refine seqE G h9 W V.env ⟨_, _, _, FX⟩ P fun v a st1 ρ1 σ1 h1 tk1 l1 hr1 hs1 e1 ra V1 F1 P1 => ?_
  refine ra.onInt e1 fun b n1 t1 e1 hn1 => ?_
  obtain ⟨l, hl, P'⟩ := post_bind (rel1 := relE) e1 P1 relE_exc
  refine PyProof.Rows.iadd_int ?_
  obtain ⟨v2, st2, ρ2, σ2, h2, tk2, l2, es, hr2, hs2, hf, ra2, F2, P2⟩ := nxtV (addI_ok (s := sat s h1 tk1) hl (hn0.mono hs1) hn1 F1 P' tk1 (tk1 + 1))
  cases hf
  rw [es]
  exact local_ok (s := sat s h2 tk2) W.kind (V.mono (hr1.trans hr2)) hp hx ra2 F2 fun h' tk F' => post_nx P2 F' (a := .next) rfl tk
theorem Ss_ok {l : List Stmt} (h : ssF ih sc l st = some outs) (W : WF Γ sc.lvl) (V : ScR Γ ρ sc) (hX : sc.loop = true → PassesOwn (model prg w) Γ.A Γ.env X) (hp : Γ.pin = none) (F : FS Γ st ρ σ s.heap) (P : Post relS Γ ρ σ s outs Q X) :
    wpAny (model prg w) Γ.A (execs l Γ.env) Q X s := by
  cases l with
  | nil =>
    with_reducible refine wpAny_execs_nil ?_
    exact post_1 (r := .next) h P F (a := Flow.next) rfl s.toks
  | cons t r =>
    with_reducible refine wpAny_execs_cons ?_
    obtain ⟨l, hl, P'⟩ := post_bind (rel1 := relS) h P relS_exc
    exact wpAny_mono (G.S _ _ _ _ hl _ _ _ _ _ _ W V hX hp F P') (fun f s1 N => nxtS (K := fun f s1 => match f with | .next => wpAny (model prg w) Γ.A (execs r Γ.env) Q X s1 | f => Q f s1) N (fun st1 ρ1 σ1 h1 tk1 l2 hr hs hf F1 P1 => G.Ss _ _ _ _ hf _ _ _ (sat s h1 tk1) _ _ W (V.mono hr) hX hp F1 P1) fun y h1 tk1 hq => hq) fun _ _ x => x
end

end
-- W16
section
section
variable {A : Around} {X : Value → Shared → Prop} {s : Shared} {env : Env} {body : List Stmt} {Q : Flow → Shared → Prop} {I : Addr} {fp : List Addr} {n i : Nat} {P : Nat → Value → Prop} {T : Nat → Heap → Prop} {x : Str} {px : Pos}
theorem for_item (W : Walks prg w A I fp [I] n P T) (hE : PassesOwn (model prg w) A env X) (hi : i < n) (st : T i s.heap)
    (h : ∀ v h' tk, P i v → T (i + 1) h' → (∀ b o, b ≠ I → s.heap.get? b = some o → h'.get? b = some o) → wpAny (model prg w) A (storeName env x v) (fun _ s2 => wpAny (model prg w) A (execs body env) (fun f s3 => match f with
      | .next | .cont => codeAny (model prg w) A (.forLoop (.Name x px) (.ref I) body [] env) (fun r s' => match r with | .ok f => Q f s' | .error e => cameBackBy (model prg w) A env X e s') s3
      | .brk => Q .next s3
      | .ret v => Q (.ret v) s3) X s2) X (sat s h' tk)) :
    codeAny (model prg w) A (.forLoop (.Name x px) (.ref I) body [] env) (fun r s' => match r with | .ok f => Q f s' | .error e => cameBackBy (model prg w) A env X e s') s := by
  refine codeAny_of_tree ?_
  show wpAny _ A ((forTurn (.Name x px) (.ref I) body [] env).onRaise (fun x => do noteFrame x env; theTreesLotGoes x)) _ _ s
  refine wpAny_noted ?_
  simp only [forTurn]
  refine wpAny_bind (wpAny_standAt (wpAny_bind (wpAny_onRaise ?_)))
  refine W.item i s _ _ hi st fun v h' tk hP hT hk => ?_
  refine wpAny_bind (show wpAny (model prg w) A (pure ()) _ _ _ from wpAny_pure ?_)
  refine wpAny_bind (wpAny_mono (PyProof.Rows.assign_Name (h v h' tk hP hT fun b o hb e => hk b o (fun m => hb (List.mem_singleton.mp m)) e)) (fun _ s2 h2 => wpAny_bind (wpAny_mono h2 (fun f s3 h3 => ?_) hE)) hE)
  cases f with
  | next => exact wpAny_pure ⟨rfl, h3⟩
  | cont => exact wpAny_pure ⟨rfl, h3⟩
  | brk => exact wpAny_pure h3
  | ret v => exact wpAny_pure h3
theorem for_done (W : Walks prg w A I fp [I] n P T) (st : T n s.heap) (h : ∀ h' tk, (∀ b o, b ≠ I → s.heap.get? b = some o → h'.get? b = some o) → Q .next (sat s h' tk)) :
    codeAny (model prg w) A (.forLoop (.Name x px) (.ref I) body [] env) (fun r s' => match r with | .ok f => Q f s' | .error e => cameBackBy (model prg w) A env X e s') s := by
  refine codeAny_of_tree ?_
  show wpAny _ A ((forTurn (.Name x px) (.ref I) body [] env).onRaise (fun x => do noteFrame x env; theTreesLotGoes x)) _ _ s
  refine wpAny_noted ?_
  simp only [forTurn]
  refine wpAny_bind (wpAny_standAt (wpAny_bind (wpAny_onRaise ?_)))
  refine W.done s _ _ st fun h' tk hk => ?_
  refine wpAny_pure ⟨rfl, codeAny_block (wpAny_execs_nil ?_)⟩
  exact h h' tk fun b o hb e => hk b o (fun m => hb (List.mem_singleton.mp m)) e
end
section
variable {Γ : FC} {st : St} {ρ : List Addr} {σ : List Int} {h g h' : Heap} {m : Str → Option Value} {os : List Obj}
theorem FSx.g0 (F : FSx Γ st ρ σ h g m os) : g.get? h.objs.size = none ∧ Γ.g₀.get? h.objs.size = none := by
  have k : g.objs.size ≤ h.objs.size := Nat.le_trans F.F.above (Nat.le_of_lt F.F.ns.lt)
  have z : ∀ k : Heap, k.objs.size ≤ h.objs.size → k.get? h.objs.size = none := fun k hk => by
    cases q : k.get? h.objs.size with
    | none => rfl
    | some o => exact absurd (Heap.lt_size q) (Nat.not_lt.mpr hk)
  exact ⟨z g k, z _ (by rw [← F.T.size]; exact k)⟩
/-- all but an iterator is as it was -/
theorem FSx.next (F : FSx Γ st ρ σ h g m os) {I : Addr} (hk : ∀ b o, b ≠ I → h.get? b = some o → h'.get? b = some o) (h1 : I ∉ ρ) (h2 : ∀ q ∈ Γ.extra, q.1 ≠ I) (h3 : I ≠ Γ.L) (h4 : Γ.g₀.get? I = none) : FSx Γ st ρ σ h' g m os := by
  have hg := F.T.none_ _ h4
  refine F.moved ⟨F.F.ns.at' fun o e => hk _ o (Ne.symm h3) e, fun b o e => hk b o (fun q => by rw [q, hg] at e; cases e) (F.F.keep b o e), F.F.above⟩ fun p hp => ⟨hk _ _ ?_ (F.N p hp).1, (F.N p hp).2⟩
  rcases List.mem_append.mp hp with hp | hp
  · exact fun q => h1 (q ▸ zip_key hp)
  · exact h2 p hp
@[reducible] noncomputable def FC.fzd (Γ : FC) (fz : List (Nat × Obj)) : FC := { Γ with fz := fz }
noncomputable def St.frzd (st : St) (f : List Nat) : St := ⟨st.loc, st.objs, st.bnd, st.turn, f, st.sums⟩
theorem FSx.thaw {fz : List (Nat × Obj)} {frz : List Nat} (F : FSx (Γ.fzd fz) st ρ σ h g m os) (hsub : ∀ q ∈ Γ.fz, q ∈ fz) (hz : ∀ q ∈ Γ.fz, (q.2.cls = .type "tuple" ∧ ∃ vs n, q.2.data = .seq vs n) ∨ q.1 ∈ frz) : FSx Γ (st.frzd frz) ρ σ h g m os :=
  ⟨F.T, F.T0, F.B, F.D, F.F, F.N, F.O, F.len, F.M, F.asc, F.ap, F.bd, F.sm, F.Mp, fun q hq => ⟨(F.Z q (hsub q hq)).1, hz q hq⟩⟩
theorem mem_more {p : Addr × Obj} {e3 : List (Addr × Obj)} (h : p ∈ ρ.zip os ++ Γ.extra) : p ∈ ρ.zip os ++ (Γ.more e3).extra := (List.mem_append.mp h).elim (fun h => List.mem_append_left _ h) fun h => List.mem_append_right _ (List.mem_append_right e3 h)
theorem XS.post {C e : Addr} {e3 : List (Addr × Obj)} (x : XS (Γ.more e3) st C e ρ σ h) : XS Γ st C e ρ σ h := by
  rcases x with x | x
  · left
    obtain ⟨g, m, os, g₁, t, vs, T, T0, B, D, F, R, U, O, len, M, asc, ap, bd, sm, Z⟩ := x
    obtain ⟨⟨Bh, b1, b2, b3, b4⟩, b5⟩ := R
    exact ⟨g, m, os, g₁, t, vs, T, T0, B, D, F, ⟨⟨Bh, b1, b2, fun q hq => b3 q (mem_more hq), b4⟩, b5⟩, U, O, len, M, asc, fun q hq => ap q (List.mem_append_right e3 hq), bd, sm, Z⟩
  · right
    obtain ⟨hown, g, m, os, t, vs, od, F, N, off⟩ := x
    exact ⟨hown, g, m, os, t, vs, od, F.post, N, fun q hq => off q (mem_more hq)⟩
theorem XS.thaw {C e : Addr} {fz : List (Nat × Obj)} {frz : List Nat} (x : XS (Γ.fzd fz) st C e ρ σ h) (hsub : ∀ q ∈ Γ.fz, q ∈ fz) (hz : ∀ q ∈ Γ.fz, (q.2.cls = .type "tuple" ∧ ∃ vs n, q.2.data = .seq vs n) ∨ q.1 ∈ frz) : XS Γ (st.frzd frz) C e ρ σ h := by
  rcases x with x | x
  · left
    obtain ⟨g, m, os, g₁, t, vs, T, T0, B, D, F, R, U, O, len, M, asc, ap, bd, sm, Z⟩ := x
    exact ⟨g, m, os, g₁, t, vs, T, T0, B, D, F, R, U, O, len, M, asc, ap, bd, sm, fun q hq => ⟨(Z q (hsub q hq)).1, hz q hq⟩⟩
  · right
    obtain ⟨hown, g, m, os, t, vs, od, F, N, off⟩ := x
    exact ⟨hown, g, m, os, t, vs, od, F.thaw hsub hz, N, off⟩
end
noncomputable def unfrz (f : List Nat) (l : List (RR × St)) : List (RR × St) := l.map fun o => (o.1, o.2.frzd f)
theorem mem_unfrz {f : List Nat} {l : List (RR × St)} {o : RR × St} (h : o ∈ l) : (o.1, o.2.frzd f) ∈ unfrz f l := List.mem_map_of_mem (f := fun o : RR × St => (o.1, o.2.frzd f)) h
section
variable (P : Params) (ih : Run) (sc : SC)
/-- what a for statement takes -/
noncomputable def itemsF (st : St) (v : SV) : Option (List SV) := orE (onObj st v fun _ o => orE (oTup o some) (orE (oList o some) (oRange o fun a b c => gd (decide (c = 1)) (rangeU a b)))) (orE (onBytes v fun l => some (l.map .int)) (onRef v fun a => gd (Nat.beq a 78) (some [.str (Str.ofString "config"), .str (Str.ofString "rapid"), .str (Str.ofString "change")])))
noncomputable def sFor (x : Str) (px : Pos) (iter : PySem.Expr) (body : List Stmt) (st : St) : Outs := gd (sc.loop && (plainIter iter && isLoc sc x)) (bnd (ih (.E sc iter) st) (rVal fun v st1 => ob (itemsF st1 v) fun items => ob (ih (.Loop sc (.Name x px) body items) (st1.frzd (frzOf v ++ st1.frz))) fun l => some (unfrz st1.frz l)))
noncomputable def loopF (t : PySem.Expr) (body : List Stmt) (items : List SV) (st : St) : Outs := List.rec (ok1 .next st) (fun v r _ => eName t fun x _ => bnd (ih (.Ss sc body) (st.bind x v)) (rNext (ih (.Loop sc t body r)))) items
noncomputable def whlF (t : PySem.Expr) (body : List Stmt) (k : Nat) (st : St) : Outs := Nat.rec none (fun k _ => bnd (ih (.T sc t) st) (rTru fun c st1 => cnd c (bnd (ih (.Ss sc body) st1) (rNext (ih (.Whl sc t body k)))) (ok1 .next st1))) k
end
section
variable {Γ : FC} {st : St} {ρ : List Addr} {σ : List Int} {s : Shared} {X : Value → Shared → Prop} {outs : List (RR × St)} {ih : Run} {sc : SC} {Q : Flow → Shared → Prop}
theorem Whl_ok (G : Good ih) {c : PySem.Expr} {body : List Stmt} {k : Nat} (h : whlF ih sc c body k st = some outs) (W : WF Γ sc.lvl) (V : ScR Γ ρ sc) (hl : sc.loop = true) (hX : PassesOwn (model prg w) Γ.A Γ.env X) (hp : Γ.pin = none) (F : FS Γ st ρ σ s.heap) (P : Post relS Γ ρ σ s outs Q X) :
    WhlRest prg w Γ.A X Γ.env c body [] Q k s := by
  cases k with
  | zero => exact dead h
  | succ k =>
    refine whl_turn hX ?_
    refine seqT G h W V.env (.inr rfl) F P fun b st1 ρ1 σ1 h1 tk1 l1 hr1 hs1 e1 V1 F1 P1 => ?_
    cases b with
    | false => exact WhlIf.no rfl (wpAny_execs_nil (post_1 (s := sat s h1 tk1) (r := .next) e1 P1 F1 (a := Flow.next) rfl tk1))
    | true =>
      refine WhlIf.yes rfl ?_
      obtain ⟨l, hl', P'⟩ := post_bind (rel1 := relS) e1 P1 relS_exc
      refine wpAny_mono (G.Ss _ _ _ _ hl' _ _ _ (sat s h1 tk1) _ _ W (V.mono hr1) (fun _ => hX) hp F1 P') (fun f s1 N => ?_) fun _ _ x => x
      refine nxtS N (fun st2 ρ2 σ2 h2 tk2 l2 hr hs hf F2 P2 => ?_) fun y h2 tk2 hq => hq
      exact G.Whl _ _ _ _ _ _ hf _ _ _ (sat s h2 tk2) _ _ W (V.mono (hr1.trans hr)) hl hX hp F2 P2
theorem Loop_ok (G : Good ih) {x : Str} {px : Pos} {body : List Stmt} {items : List SV} (h : loopF ih sc (.Name x px) body items st = some outs) (W : WF Γ sc.lvl) (V : ScR Γ ρ sc) (hl : sc.loop = true) (hx : isLoc sc x = true) (hX : PassesOwn (model prg w) Γ.A Γ.env X) (hp : Γ.pin = none)
    {I : Addr} {fp : List Addr} {n : Nat} {Pi : Nat → Value → Prop} {T : Nat → Heap → Prop} {i : Nat} (Wk : Walks prg w Γ.A I fp [I] n Pi T) (hTI : ∀ i h, T i h → ∃ o, h.get? I = some o) (hfp : ∀ b ∈ fp, b = I ∨ (∃ q ∈ Γ.fz, ρ[q.1]? = some b) ∨ ∃ o, base.get? b = some o) (h1 : I ∉ ρ) (h2 : ∀ q ∈ Γ.extra, q.1 ≠ I) (h3 : I ≠ Γ.L) (h4 : Γ.g₀.get? I = none)
    (hT : T i s.heap) (hn : i + items.length = n) (hP : ∀ j sv, items[j]? = some sv → ∀ v ρ' σ', ρ <+: ρ' → σ <+: σ' → Pi (i + j) v → VR ρ' σ' sv v) (F : FS Γ st ρ σ s.heap) (P : Post relS Γ ρ σ s outs Q X) :
    codeAny (model prg w) Γ.A (.forLoop (.Name x px) (.ref I) body [] Γ.env) (fun r s' => match r with | .ok f => Q f s' | .error e => cameBackBy (model prg w) Γ.A Γ.env X e s') s := by
  obtain ⟨g, m, os, FX⟩ := F
  cases items with
  | nil =>
    have hin : i = n := hn
    subst hin
    refine for_done Wk hT fun h' tk hk => ?_
    cases h
    exact post_nx P ⟨_, _, _, FX.next hk h1 h2 h3 h4⟩ (a := Flow.next) rfl tk
  | cons sv r =>
    have hin : i < n := by rw [List.length_cons] at hn; omega
    refine for_item Wk hX hin hT fun v hh tk hPv hT1 hk => ?_
    have FX1 := FX.next hk h1 h2 h3 h4
    obtain ⟨o, ho⟩ := hTI _ _ hT1
    have FX2 := FX1.pre (e3 := [(I, o)]) FX1.F (fun p hp => by
      rcases List.mem_append.mp hp with hp | hp
      · rw [List.mem_singleton.mp hp]; exact ⟨ho, h3, FX1.T.none_ _ h4⟩
      · exact FX1.N p hp) (fun q hq => by rw [List.mem_singleton.mp hq]; exact h1)
    have V2 : ScR (Γ.more [(I, o)]) ρ sc := ⟨V.cs, V.cv, V.cells, V.own, V.code, V.cn⟩
    have W2 : WF (Γ.more [(I, o)]) sc.lvl := ⟨W.frames, W.hand, W.kind, W.room, W.units⟩
    refine local_ok (Γ := Γ.more [(I, o)]) (s := sat s hh tk) W2.kind V2 hp hx (hP 0 sv rfl v ρ σ (List.prefix_refl _) (List.prefix_refl _) hPv) ⟨_, _, _, FX2⟩ fun hh2 tk2 F2 => ?_
    refine i_ob (fun l h hl' => ?_) h
    have sp := bndL_spec h
    refine G.Ss _ _ _ _ hl' (Γ.more [(I, o)]) ρ σ (sat s hh2 tk2) _ _ W2 V2 (fun _ => hX) hp F2 fun q hq ρ1 σ1 h5 tk5 hr hs => ⟨fun f hf FF => ?_, fun C e hC XX => (P q ((sp q hq).1 (by rw [hC]; rfl)) ρ1 σ1 h5 tk5 hr hs).2 C e hC XX.post⟩
    obtain ⟨q1, st1⟩ := q
    obtain ⟨g5, m5, os5, F5⟩ := FF
    cases q1 <;> try exact absurd hf (fun z => z)
    · cases hf
      obtain ⟨l2, e2, m2⟩ := (sp _ hq).2 rfl
      have hT5 : T (i + 1) h5 := by
        refine Wk.frame (i + 1) hh h5 hT1 fun b hb o' e => ?_
        rcases hfp b hb with rfl | ⟨z, hz, hzb⟩ | ⟨ob, hob⟩
        · cases ho.symm.trans e
          exact (F5.N (b, o) (List.mem_append_right _ (.head _))).1
        · cases ((FX1.N _ (List.mem_append_left _ (zip_get hzb (FX1.Z z hz).1))).1).symm.trans e
          exact (F5.N _ (List.mem_append_left _ (zip_get (pre_get hr hzb) (F5.Z z hz).1))).1
        · cases (FX1.F.keep _ _ (FX1.B.stays _ _ hob)).symm.trans e
          exact F5.F.keep _ _ (F5.B.stays _ _ hob)
      refine G.Loop _ _ _ _ _ _ _ e2 Γ ρ1 σ1 (sat s h5 tk5) Q X W (V.mono hr) hl (beq_iff_eq.mp hx) hX hp I fp n Pi T (i + 1) Wk hTI (fun b hb => (hfp b hb).imp id fun z => z.imp (fun ⟨q, a, b⟩ => ⟨q, a, pre_get hr b⟩) id) (F5.ap (I, o) (.head _)) h2 h3 h4 hT5 ((Nat.succ_add_eq_add_succ i r.length).trans hn) (fun j sv' hj v' ρ' σ' hr' hs' hPj => ?_) ⟨_, _, _, F5.post⟩ fun o2 ho2 ρ2 σ2 hh' tk' hr2 hs2 => P o2 (m2 o2 ho2) ρ2 σ2 hh' tk' (hr.trans hr2) (hs.trans hs2)
      exact hP (j + 1) sv' hj v' ρ' σ' (hr.trans hr') (hs.trans hs') (Nat.succ_add_eq_add_succ i j ▸ hPj)
    · obtain ⟨y, rfl, hy⟩ := hf
      obtain ⟨l2, e2, m2⟩ := (sp _ hq).2 rfl
      cases e2
      exact (P _ (m2 _ (.head _)) ρ1 σ1 h5 tk5 hr hs).1 (.ret y) ⟨_, rfl, hy⟩ ⟨_, _, _, F5.post⟩
/-- the loop begins: the iterator is a new object -/
theorem loop_start (G : Good ih) {x : Str} {px : Pos} {body : List Stmt} {items : List SV} {fr : List Nat} {l : List (RR × St)} {g : Heap} {m : Str → Option Value} {os : List Obj} (h : ih (.Loop sc (.Name x px) body items) (st.frzd (fr ++ st.frz)) = some l) (W : WF Γ sc.lvl) (V : ScR Γ ρ sc) (hl : sc.loop = true) (hx : isLoc sc x = true) (hX : PassesOwn (model prg w) Γ.A Γ.env X) (hp : Γ.pin = none)
    (FX : FSx Γ st ρ σ s.heap g m os) (P : Post relS Γ ρ σ s (unfrz st.frz l) Q X) {o : Obj} (hof : o.isFreed = false) {fp : List Addr} {Pi : Nat → Value → Prop} {T : Nat → Heap → Prop} (Wk : Walks prg w Γ.A s.heap.objs.size fp [s.heap.objs.size] items.length Pi T) (hTI : ∀ i h, T i h → ∃ o, h.get? s.heap.objs.size = some o)
    {fz' : List (Nat × Obj)} (hz : Kept fz' os (fr ++ st.frz)) (hsub : ∀ q ∈ Γ.fz, q ∈ fz') (hfp : ∀ b ∈ fp, b = s.heap.objs.size ∨ (∃ q ∈ fz', ρ[q.1]? = some b) ∨ ∃ o, base.get? b = some o)
    (hT : T 0 (s.heap.push o)) (hP : ∀ j sv, items[j]? = some sv → ∀ v ρ' σ', ρ <+: ρ' → σ <+: σ' → Pi j v → VR ρ' σ' sv v) :
    codeAny (model prg w) Γ.A (.forLoop (.Name x px) (.ref s.heap.objs.size) body [] Γ.env) (fun r s' => match r with | .ok f => Q f s' | .error e => cameBackBy (model prg w) Γ.A Γ.env X e s') { s with heap := s.heap.push o } := by
  have FX1 : FSx (Γ.fzd fz') (st.frzd (fr ++ st.frz)) ρ σ (s.heap.push o) g m os := { FX with F := FX.F.push o, N := fun p hp => FX.N.push FX.F o hof p (.tail _ hp), Z := hz }
  have V2 : ScR (Γ.fzd fz') ρ sc := ⟨V.cs, V.cv, V.cells, V.own, V.code, V.cn⟩
  refine G.Loop _ _ _ _ _ _ _ h (Γ.fzd fz') ρ σ { s with heap := s.heap.push o } Q X ⟨W.frames, W.hand, W.kind, W.room, W.units⟩ V2 hl (beq_iff_eq.mp hx) hX hp _ fp items.length Pi T 0 Wk hTI hfp (fun q => Nat.lt_irrefl _ (FX.lt q)) (fun q hq e => ?_) (fun e => ?_) FX.g0.2 hT (Nat.zero_add _) (fun j sv hj v ρ' σ' hr hs hPj => hP j sv hj v ρ' σ' hr hs (by rw [Nat.zero_add] at hPj; exact hPj)) ⟨_, _, _, FX1⟩ fun q hq ρ1 σ1 h5 tk5 hr hs => ⟨fun f hf FF => ?_, fun C e hC XX => ?_⟩
  · have := Heap.lt_size (FX.N q (List.mem_append_right _ hq)).1
    rw [e] at this; exact Nat.lt_irrefl _ this
  · have := FX.F.ns.lt
    exact Nat.lt_irrefl _ (e ▸ this)
  · obtain ⟨g5, m5, os5, F5⟩ := FF
    exact (P _ (mem_unfrz hq) ρ1 σ1 h5 tk5 hr hs).1 f hf ⟨_, _, _, F5.thaw hsub fun q hq => (FX.Z q hq).2⟩
  · exact (P _ (mem_unfrz hq) ρ1 σ1 h5 tk5 hr hs).2 C e hC (XX.thaw hsub fun q hq => (FX.Z q hq).2)
/-- whence a for statement's items come -/
theorem for_src (XB : (hd.heap_1 w.params).In base) {v : SV} {a : Value} {items : List SV} {g : Heap} {m : Str → Option Value} {os : List Obj} (WA : Γ.A.handled = none) (FX : FSx Γ st ρ σ s.heap g m os) (ra : VR ρ σ v a) (hit : itemsF st v = some items) {K : Value → Shared → Prop}
    (hst : ∀ {o : Obj} {fp : List Addr} {Pi : Nat → Value → Prop} {T : Nat → Heap → Prop} {fz' : List (Nat × Obj)} {n : Nat}, n = items.length → o.isFreed = false → Walks prg w Γ.A s.heap.objs.size fp [s.heap.objs.size] n Pi T → (∀ i h, T i h → ∃ o, h.get? s.heap.objs.size = some o) → Kept fz' os (frzOf v ++ st.frz) → (∀ q ∈ Γ.fz, q ∈ fz') →
      (∀ b ∈ fp, b = s.heap.objs.size ∨ (∃ q ∈ fz', ρ[q.1]? = some b) ∨ ∃ o, base.get? b = some o) → T 0 (s.heap.push o) → (∀ j sv, items[j]? = some sv → ∀ v ρ' σ', ρ <+: ρ' → σ <+: σ' → Pi j v → VR ρ' σ' sv v) → K (.ref s.heap.objs.size) { s with heap := s.heap.push o }) :
    wpAny (model prg w) Γ.A (pyIter a) K X s := by
  have one : ∀ {b : Addr} {fz' : List (Nat × Obj)}, b ∈ [s.heap.objs.size] → b = s.heap.objs.size ∨ (∃ q ∈ fz', ρ[q.1]? = some b) ∨ ∃ o, base.get? b = some o := fun hb => .inl (List.mem_singleton.mp hb)
  refine i_or (fun hit => i_onOwn (fun i hit z => ?_) hit) (fun hit => i_or (fun hit => ?_) (fun hit => ?_) hit) hit
  · subst z
    obtain ⟨ax, hax, rfl⟩ := ra
    refine i_ob (fun so hit hso => ?_) hit
    obtain ⟨o, ho, r, hm⟩ := FX.at hax hso
    have hne : ax ≠ s.heap.objs.size := Nat.ne_of_lt (FX.lt (List.mem_of_getElem? hax))
    have kept : Kept Γ.fz os ([i] ++ st.frz) := fun q hq => ⟨(FX.Z q hq).1, (FX.Z q hq).2.imp id (List.mem_append_right _)⟩
    have kept2 : ((o.cls = .type "tuple" ∧ ∃ vs n, o.data = .seq vs n) ∨ i ∈ [i] ++ st.frz) → Kept ((i, o) :: Γ.fz) os ([i] ++ st.frz) := fun h q hq => (List.mem_cons.mp hq).elim (fun e => by subst e; exact ⟨ho, h⟩) (kept q)
    have two : ∀ b ∈ [s.heap.objs.size, ax], b = s.heap.objs.size ∨ (∃ q ∈ (i, o) :: Γ.fz, ρ[q.1]? = some b) ∨ ∃ o, base.get? b = some o := fun b hb => (List.mem_cons.mp hb).elim .inl fun hb => .inr (.inl ⟨_, .head _, List.mem_singleton.mp hb ▸ hax⟩)
    refine i_or (fun hit => i_oTup (fun xs hit z => ?_) hit) (fun hit => i_or (fun hit => i_oList (fun xs hit z => ?_) hit) (fun hit => i_oRange (fun a b c hit z => i_gd (fun hit9 hc => ?_) hit) hit) hit) hit
    · subst z
      cases hit
      obtain ⟨vs, rfl, hvs⟩ := r
      have htup : s.heap.IsTuple ax vs.toArray := FX.N.isTup hm
      have hl : vs.toArray.size = items.length := by rw [List.size_toArray, ← hvs.length]
      refine wpAny_pyIter_tuple htup (hst hl rfl (Walks.tuple WA _ ax hne vs.toArray) (fun i h hT => by obtain ⟨⟨o, ho, _⟩, _⟩ := hT; exact ⟨o, ho⟩) (kept2 (.inl ⟨rfl, _, _, rfl⟩)) (fun q hq => .tail _ hq) two ⟨⟨_, Heap.get?_push_size _ rfl, rfl, rfl⟩, htup.push _⟩ fun j sv hj v ρ' σ' hr hs hPv => ?_)
      obtain ⟨y, hy, hr'⟩ := hvs.get hj
      rw [List.getElem?_toArray, hy] at hPv
      cases hPv
      exact hr'.mono hr hs
    · subst z
      cases hit
      obtain ⟨vs, n, rfl, hvs⟩ := r
      have hlst : s.heap.IsList ax vs.toArray := FX.N.isList hm
      have hl : vs.toArray.size = items.length := by rw [List.size_toArray, ← hvs.length]
      refine wpAny_pyIter_list hlst (hst hl rfl (Walks.list WA _ ax hne vs.toArray) (fun i h hT => by obtain ⟨⟨o, ho, _⟩, _⟩ := hT; exact ⟨o, ho⟩) (kept2 (.inr (.head _))) (fun q hq => .tail _ hq) two ⟨⟨_, Heap.get?_push_size _ rfl, rfl, rfl⟩, hlst.push _⟩ fun j sv hj v ρ' σ' hr hs hPv => ?_)
      obtain ⟨y, hy, hr'⟩ := hvs.get hj
      rw [List.getElem?_toArray, hy] at hPv
      cases hPv
      exact hr'.mono hr hs
    · subst z
      cases of_decide_eq_true hc
      obtain ⟨t, u, v, rfl⟩ := r
      refine i_gd (fun hit8 hok => ?_) hit9
      cases hit8
      rw [Bool.and_eq_true] at hok
      have hnn := of_decide_eq_true hok.2
      have hl : ((List.range (Builtin.Range.rangeSize a b 1).toNat).map fun (i : Nat) => SV.int (.lit (a + (i : Int)))).length = (Builtin.Range.rangeSize a b 1).toNat := by rw [List.length_map, List.length_range]
      refine PySem.wpAny_pyIter_range (FX.N _ hm).1 hok.1 (hst hl.symm rfl (Walks.range WA _ a 1 (Builtin.Range.rangeSize a b 1).toNat) (fun i h hT => ⟨_, hT⟩) kept (fun q hq => hq) (fun b hb => one hb) ?_ fun j sv hj v ρ' σ' hr hs hPv => ?_)
      · show IsRangeIter _ _ _ _ _
        rw [Int.toNat_of_nonneg hnn]
        simpa using Heap.get?_push_size _ rfl
      · rw [lit_items hj]
        obtain ⟨t, rfl⟩ := hPv
        exact ⟨_, _, rfl, by show a + (j : Int) * 1 = a + (j : Int); rw [Int.mul_one]⟩
  · revert hst
    refine ra.onBytes hit fun ks b t hit hb => fun hst => ?_
    cases hit
    refine KBw.pyIter_bytes (hst (by rw [List.length_map, hb.length, KBw.ints_length]) rfl (KBw.walks WA _ b t) (fun i h hT => by obtain ⟨o, ho, _⟩ := hT; exact ⟨o, ho⟩) (fz' := Γ.fz) (fun q hq => ⟨(FX.Z q hq).1, (FX.Z q hq).2.imp id (List.mem_append_right _)⟩) (fun q hq => hq) (fun b hb => one hb) ⟨_, Heap.get?_push_size _ rfl, rfl, rfl⟩ fun j sv hj v ρ' σ' hr hs hPv => ?_)
    rw [List.getElem?_map, Option.map_eq_some_iff] at hj
    obtain ⟨k, hk, rfl⟩ := hj
    obtain ⟨c, u, hc, rfl⟩ := hPv
    obtain ⟨y, hy, hky⟩ := hb.get hk
    cases (KBw.ints_get hc).symm.trans hy
    exact ⟨_, _, rfl, hky.mono hs⟩
  · revert hst
    refine ra.onRef hit fun a hit => i_gd (fun hit ha => fun hst => ?_) hit
    cases Nat.eq_of_beq_eq_true ha
    cases hit
    have XH : (hd.heap_1 w.params).In s.heap := Frag.In.keeps (FX.In XB) (Fr.keep FX.F)
    obtain ⟨lo, kvs, hdo, hf⟩ := id (kinds_tab (prog := prg) XH)
    obtain ⟨ep, hat⟩ := hdo.dictAt
    have hne : 78 ≠ s.heap.objs.size := Nat.ne_of_lt hat.lt_size
    refine wpAny_pyIter_dict lo hat (hst hf.length.symm rfl (Walks.dictKeys (knd := strKind prg w) WA _ 78 hne kvs ep) (fun i h hT => by obtain ⟨⟨o, ho, _⟩, _⟩ := hT; exact ⟨o, ho⟩) (fz' := Γ.fz) (fun q hq => ⟨(FX.Z q hq).1, (FX.Z q hq).2.imp id (List.mem_append_right _)⟩) (fun q hq => hq) (fun b hb => (List.mem_cons.mp hb).elim .inl fun hb => .inr (.inr (List.mem_singleton.mp hb ▸ kinds_old XB))) ⟨⟨_, Heap.get?_push_size _ rfl, rfl, rfl⟩, hat.push _⟩ fun j sv hj v ρ' σ' hr hs hPv => ?_)
    obtain ⟨k, xv, hx', hkey⟩ := hPv
    obtain ⟨dv, hD, _⟩ := hf.at hx'
    obtain ⟨t, rfl⟩ := Value.isStrOf_shape hkey
    rcases j with _ | _ | _ | j
    · cases hj; cases hD; exact ⟨t, rfl⟩
    · cases hj; cases hD; exact ⟨t, rfl⟩
    · cases hj; cases hD; exact ⟨t, rfl⟩
    · cases hj
theorem fold_ok {iter : PySem.Expr} {env : Env} (h : plainIter iter = true) (v : Value) : foldedSetIterable iter env v = pure v := by cases iter <;> first | rfl | exact Bool.noConfusion h
theorem For_ok (XB : (hd.heap_1 w.params).In base) (G : Good ih) {x : Str} {px pos : Pos} {iter : PySem.Expr} {body : List Stmt} (h : sFor ih sc x px iter body st = some outs) (W : WF Γ sc.lvl) (V : ScR Γ ρ sc) (hX : sc.loop = true → PassesOwn (model prg w) Γ.A Γ.env X) (hp : Γ.pin = none) (F : FS Γ st ρ σ s.heap) (P : Post relS Γ ρ σ s outs Q X) :
    wpAny (model prg w) Γ.A (exec (.For (.Name x px) iter body [] pos) Γ.env) Q X s := by
  refine i_gd (fun h hc => ?_) h
  obtain ⟨hl, hc⟩ := Bool.and_eq_true_iff.mp hc
  obtain ⟨hpl, hx⟩ := Bool.and_eq_true_iff.mp hc
  (with_reducible refine wpAny_For ?_ (fold_ok hpl))
  refine seqE G h W V.env F P fun v a st1 ρ1 σ1 h1 tk1 l1 hr1 hs1 e1 ra V1 F1 P1 => i_ob (fun items e1 hit => i_ob (fun l e1 hlp => ?_) e1) e1
  cases e1
  obtain ⟨g, m, os, FX⟩ := F1
  exact for_src (s := sat s h1 tk1) XB W.hand FX ra hit fun hn hof Wk hTI hz hsub hfp hT hP => by subst hn; exact loop_start (s := sat s h1 tk1) G hlp W (V.mono hr1) hl hx (hX hl) hp FX P1 hof Wk hTI hz hsub hfp hT hP
end

end
-- W17
section
section
variable {β : Type} {q : β} {ρ : List Addr} {σ : List Int} {args : List SV} {xs : List Value} {motive : List Value → Prop}
@[elab_as_elim] theorem F2.onL1 {f : SV → Option β} (ha : F2 (VR ρ σ) args xs) (e : l1 args f = some q) (k : ∀ a x, f a = some q → VR ρ σ a x → motive [x]) : motive xs := i_l1 (fun a e z => by
  subst z
  cases ha with
  | cons h1 h2 => cases h2; exact k a _ e h1) e
@[elab_as_elim] theorem F2.onL2 {f : SV → SV → Option β} (ha : F2 (VR ρ σ) args xs) (e : l2 args f = some q) (k : ∀ a b x y, f a b = some q → VR ρ σ a x → VR ρ σ b y → motive [x, y]) : motive xs := i_l2 (fun a b e z => by
  subst z
  cases ha with
  | cons h1 h2 => cases h2 with
    | cons h2 h3 => cases h3; exact k a b _ _ e h1 h2) e
noncomputable def l3 (l : List SV) (f : SV → SV → SV → Option β) : Option β := lc l fun a r => l2 r (f a)
@[elab_as_elim] theorem F2.onL3 {f : SV → SV → SV → Option β} (ha : F2 (VR ρ σ) args xs) (e : l3 args f = some q) (k : ∀ a b c x y z, f a b c = some q → VR ρ σ a x → VR ρ σ b y → VR ρ σ c z → motive [x, y, z]) : motive xs := i_lc (fun a r e z => by
  subst z
  cases ha with
  | cons h1 h2 => exact h2.onL2 (motive := fun xs => motive (_ :: xs)) e fun b c x y e h2 h3 => k a b c _ x y e h1 h2 h3) e
end
section
open Builtin Builtin.ObjectAttr
variable {prog : Program} {A : Around} {E : Value → Shared → Prop} {s : Shared} {K : Frag} {C L x t : Addr} {h₀ : Heap} {m : Str → Option Value} {post : List (Addr × Obj)} {Q : Value → Shared → Prop}
theorem exc_init2 {vs : List Value} (F : Fr h₀ L s.heap m) (X₀ : K.In h₀) (N : News h₀ L s.heap ((x, excObj C t) :: post)) (hm : excMk K C = true) (h2 : ∀ p ∈ post, p.1 ≠ x) (hz : vs.length ≤ sizeLine)
    (h : ∀ t' h', Fr h₀ L h' m → News h₀ L h' ((x, excObj C t') :: (t', tupObj vs) :: post) → t' = s.heap.objs.size → Q .none { s with heap := h' }) :
    wpAny (model prog w) A (call (.builtin "Exception.__init__") (.ref x :: vs)) Q E s := by
  have FB := PySem.F.excBase_Exception
  have Y := excMk_of (M := model prog w) (X₀.keeps F.keep) hm
  have I := exc_inst N
  have hx := (N _ (.head _)).1
  have sub : Looks (model prog w) s.heap (isInstance (.ref x) (.type "Exception")) true := I.type.andThen Y.exc
  have hz' := hz
  refine wpAny_call (codeAny_call_builtin FB.init.plain FB.initEntry ?_)
  have hcheck : ∀ {Q' : Unit → Shared → Prop} {E' : Value → Shared → Prop} {A' : Around}, Q' () s → wpAny (model prog w) A' (checkBuiltinCall "Exception.__init__" ⟨.ref x :: vs, []⟩) Q' E' s := by
    intro Q' E' A' hq
    have hshort := FB.noStar
    obtain ⟨oc, od, cd, sl, hC, -⟩ := Y.obj
    simp only [checkBuiltinCall, FB.initKind, FB.initSplit, FB.initRow]
    refine wpAny_bind (sub.here ?_)
    repeat (first | simp only [Bool.not_true, Bool.false_eq_true, if_false] | lk | wp_step | with_reducible refine wpAny_load hC ?_)
    rw [if_neg (by simp; intro _; decide)]
    exact wpAny_pure hq
  refine hcheck ?_
  have P := N.push F (tupObj vs)
  have FP := F.push (tupObj vs)
  obtain ⟨hh, g, d, tk, os⟩ := s
  unfold Builtin.«BaseException.__init__»
  wp_walk
  have hne : ∀ p ∈ [(hh.objs.size, tupObj vs)], p.1 ≠ x := fun p hp => by
    obtain rfl := List.mem_singleton.mp hp
    exact Nat.ne_of_gt (Heap.lt_size hx)
  obtain ⟨U1, U2⟩ := news_upd (pre := [(hh.objs.size, tupObj vs)]) (post := post) (d := x) (o := excObj C t) (o' := excObj C hh.objs.size) (f := Obj.mapFields fun x => x.setIfInBounds 0 (Value.ref hh.objs.size)) FP P hne h2 rfl rfl
  refine h _ _ U1 (fun q hq => U2 q ?_) rfl
  simp only [List.mem_cons, List.mem_append, List.not_mem_nil, or_false] at hq ⊢
  rcases hq with q | q | q
  · exact .inr (.inl q)
  · exact .inl q
  · exact .inr (.inr q)

end
noncomputable def joinB (xs : List SV) : Option (List SI) := List.rec (some []) (fun v _ ih => onBytes v fun l => ob ih fun m => some (l ++ m)) xs
theorem joinB_ok {ρ : List Addr} {σ : List Int} {xs : List SV} : ∀ {vs : List Value} {l : List SI}, joinB xs = some l → F2 (VR ρ σ) xs vs → ∃ bs : List (Array UInt8 × Tok), vs = BJ.bvs bs ∧ F2 (SIR σ) l ((bs.map fun p => KBw.bInts p.1).flatten) := by
  induction xs with
  | nil => intro vs l e h; cases e; cases h; exact ⟨[], rfl, .nil⟩
  | cons v r ih =>
    intro vs l e h
    cases h with
    | cons hv hr =>
      refine hv.onBytes e fun l b t e hb => i_ob (fun l' e hl => ?_) e
      cases e
      obtain ⟨bs, rfl, h2⟩ := ih hl hr
      exact ⟨(b, t) :: bs, rfl, by rw [List.map_cons, List.flatten_cons]; exact hb.append h2⟩
noncomputable def octet (st : St) (n : SI) : Bool := (inS st n 0 255).isSome
theorem octets_ok {σ : List Int} {st : St} (B : F2 BR st.bnd σ) {l : List SI} {ns : List Int} (e : l.all (octet st) = true) (h : F2 (SIR σ) l ns) : ∀ n ∈ ns, 0 ≤ n ∧ n < 256 := by
  induction h with
  | nil => exact fun _ h => nomatch h
  | cons hv _ ih =>
    rw [List.all_cons, Bool.and_eq_true] at e
    intro n hn
    rcases List.mem_cons.mp hn with rfl | hn
    · obtain ⟨u, hu⟩ := Option.isSome_iff_exists.mp e.1
      have := inS_ok B hu hv
      exact ⟨this.1, Int.lt_add_one_of_le this.2⟩
    · exact ih e.2 n hn
section
variable (P : Params)
noncomputable def bLen (args : List SV) (st : St) : Outs := l1 args fun a => orE (onBytes a fun l => gd (Nat.ble l.length 16777216) (okv (.int (.lit l.length)) st)) (orE (onTup st a fun _ xs => gd (Nat.ble xs.length 16384) (okv (.int (.lit xs.length)) st)) (orE (onList st a fun _ xs => gd (Nat.ble xs.length 16384) (okv (.int (.lit xs.length)) st))
  (onObj st a fun i o => oNuml o fun _ => okv (.int (.at st.bnd.length)) ((st.addB (some 0, some 63, none)).setO i (.numl (some st.bnd.length))))))
/-- one of two, by a comparison -/
noncomputable def pick2 (c d a b : SI) (st : St) : Outs := bnd (cmpF st .Lt c d) (rVal fun v st1 => onBool v fun t => okv (.int (cnd t a b)) st1)
noncomputable def bMax (args : List SV) (st : St) : Outs := l2 args fun a b => onInt a fun x => onInt b fun y => pick2 x y y x st
noncomputable def bMin (args : List SV) (st : St) : Outs := l2 args fun a b => onInt a fun x => onInt b fun y => pick2 y x y x st
noncomputable def bApp (args : List SV) (st : St) : Outs := l2 args fun a v => onList st a fun i xs => gd (Nat.ble xs.length 1000 && !(st.frz.contains i)) (okv .none (st.setO i (.list (xs ++ [v]))))
noncomputable def bExc (args : List SV) (st : St) : Outs := l2 args fun a v => onObj st a fun i o => oExc o fun C _ d => gd (!d && (excMk (hd.heap_1 P) C && !(st.frz.contains i))) (okv .none ((st.addO (.tup [v])).setO i (.exc C st.objs.length false)))
noncomputable def bJoin (args : List SV) (st : St) : Outs := l2 args fun b a => onBytes b fun l => l0 l (onList st a fun _ xs => ob (joinB xs) fun l => gd (Nat.ble l.length 1000) (okv (.bytes l) st))
noncomputable def bSum (args : List SV) (st : St) : Outs := l1 args fun a => onList st a fun _ xs => ob (isInts xs) fun ns => gd (Nat.ble ns.length 100) (okv (.int (.lit ns.sum)) st)
noncomputable def callB (id : String) (args : List SV) (st : St) : Outs := orE (gd (decide (id = "len")) (bLen args st)) (orE (gd (decide (id = "max")) (bMax args st)) (orE (gd (decide (id = "min")) (bMin args st)) (orE (gd (decide (id = "list.append")) (bApp args st)) (orE (gd (decide (id = "Exception.__init__")) (bExc P args st)) (orE (gd (decide (id = "bytes.join")) (bJoin args st)) (gd (decide (id = "sum")) (bSum args st)))))))
end
noncomputable def tBytes (args : List SV) (st : St) : Outs := l1 args fun a => orE (onBytes a fun l => okv (.bytes l) st) (orE (onInt a fun k => ob (asLit st k) fun n => gd (decide (0 ≤ n) && decide (n ≤ 5000)) (okv (.bytes (List.replicate n.toNat (.lit 0))) st)) (onList st a fun _ xs => ob (allInts xs) fun l => gd (l.all (octet st) && Nat.ble l.length 5000) (okv (.bytes l) st)))
noncomputable def tTup (args : List SV) (st : St) : Outs := l1 args fun a => orE (onTup st a fun i _ => okv (.own i) st) (onList st a fun _ xs => gd (Nat.ble xs.length 16384) (newO (.tup xs) st))
noncomputable def tRange (args : List SV) (st : St) : Outs := orE (l1 args fun a => onInt a fun k => litF st k fun n st1 => newO (.range 0 n 1) st1) (l3 args fun a b c => onInt a fun a => onInt b fun b => onInt c fun c => iLit a fun a => iLit b fun b => iLit c fun c => gd (decide (c ≠ 0 ∧ c.natAbs < 1073741824)) (newO (.range a b c) st))
noncomputable def tInt (args : List SV) (st : St) : Outs := l1 args fun a => onBool a fun b => okv (.int (.lit (cnd b 1 0))) st
noncomputable def tLst (args : List SV) (st : St) : Outs := l1 args fun a => onList st a fun _ xs => gd (Nat.ble xs.length 16384) (newO (.list xs) st)
noncomputable def callT (id : String) (args : List SV) (st : St) : Outs := orE (gd (decide (id = "bytes")) (tBytes args st)) (orE (gd (decide (id = "tuple")) (tTup args st)) (orE (gd (decide (id = "range")) (tRange args st)) (orE (gd (decide (id = "int")) (tInt args st)) (gd (decide (id = "list")) (tLst args st)))))
section
variable {Γ : FC} {st : St} {ρ : List Addr} {σ : List Int} {s : Shared} {Q : Value → Shared → Prop} {X : Value → Shared → Prop} {outs : List (RR × St)} {args : List SV} {xs : List Value}
theorem flat_sizes (bs : List (Array UInt8 × Tok)) : ((bs.map fun p => KBw.bInts p.1).flatten).length = (bs.map fun p => p.1.size).sum := by
  induction bs with
  | nil => rfl
  | cons p bs ih => rw [List.map_cons, List.flatten_cons, List.length_append, KBw.ints_length, ih, List.map_cons, List.sum_cons]
theorem joinAll {A : Around} {t : Tok} {a : Addr} {bs : List (Array UInt8 × Tok)} (hl : s.heap.IsList a (BJ.bvs bs).toArray) (hz : (bs.map fun p => p.1.size).sum ≤ 1000) (k : ∀ b t' tk, KBw.bInts b = (bs.map fun p => KBw.bInts p.1).flatten → Q (.bytes b t') { s with toks := tk }) :
    wpAny (model prg w) A (call (.builtin "bytes.join") [.bytes #[] t, .ref a]) Q X s := by
  cases bs with
  | nil => exact BJ.join0 hl fun t' tk => k _ t' tk rfl
  | cons p0 br =>
   cases br with
   | nil => exact BJ.join1 hl (by have := k p0.1 p0.2 s.toks (by simp); exact this)
   | cons p1 br =>
    refine call_meets BJ.slot_join (typeIs_bytes _ _ _) BJ.entry_join (BJ.args_join_2 _ _) (BJ.meets_joinN (bs := p0 :: p1 :: br) (by simp) hz) ⟨hl, fun t' tk => k _ _ _ ?_⟩
    rw [BJ.joined_ints, List.map_map]; rfl
theorem sum_lst {A : Around} {vs : List Value} {ns : List Int} {l : Addr} (hh : A.handled = none) (hl : s.heap.IsList l vs.toArray) (hi : IntsAre vs ns)
    (h : ∀ h' tk t', (∀ b o, s.heap.get? b = some o → h'.get? b = some o) → Q (.int ns.sum t') { s with heap := h', toks := tk }) : wpAny (model prg w) A (call (.builtin "sum") [.ref l]) Q X s := by
  have key : ∀ {vs : List Value} {ns : List Int}, IntsAre vs ns → ∃ ps : List (Int × Tok), vs = ps.map (fun p => Value.int p.1 p.2) ∧ ns = ps.map (·.1) := by
    intro vs ns hi
    induction hi with
    | nil => exact ⟨[], rfl, rfl⟩
    | cons n t _ ih => obtain ⟨ps, rfl, rfl⟩ := ih; exact ⟨(n, t) :: ps, rfl, rfl⟩
  obtain ⟨ps, rfl, rfl⟩ := key hi
  refine sum_intListG (xs := ps.toArray) hh (by unfold intItems; rw [List.map_toArray]; exact hl) fun h' tk t' hk => ?_
  have hn : (fun i => (ps.map (·.1)).getD i 0) = numAt ps.toArray := by
    funext i
    unfold numAt
    rw [List.getD_eq_getElem?_getD, List.getElem?_map, List.getElem?_toArray]
  have hs : preSum (numAt ps.toArray) ps.toArray.size = (ps.map (·.1)).sum := by
    rw [← hn, preSum_getD, List.size_toArray, List.take_of_length_le (by rw [List.length_map]; exact Nat.le_refl _)]
  rw [hs]
  exact h h' tk t' hk
theorem pick2_ok {a b ca cb : SI} {x y p q : Int} {t t' : Tok} (e : pick2 ca cb a b st = some outs) (ha : SIR σ ca x) (hb : SIR σ cb y) (hp : SIR σ a p) (hq : SIR σ b q) (F : FS Γ st ρ σ s.heap) (P : Post relE Γ ρ σ s outs Q X) (tk : Nat) :
    (x < y → Q (.int p t) { s with toks := tk }) ∧ (¬ x < y → Q (.int q t') { s with toks := tk }) := by
  refine i_ob (fun l e hl => ?_) e
  obtain ⟨st', hm, F'⟩ := cmpF_val hl ha hb F
  obtain ⟨l2, e2, m2⟩ := (bndL_spec e _ hm).2 rfl
  have e2 : okv (.int (cnd (decide (x < y)) a b)) st' = some l2 := e2
  refine ⟨fun z => ?_, fun z => ?_⟩
  · rw [decide_eq_true z] at e2
    exact post_v (v := .int a) e2 (P.sub m2) F' (x := .int p t) ⟨_, _, rfl, hp⟩ tk
  · rw [decide_eq_false z] at e2
    exact post_v (v := .int b) e2 (P.sub m2) F' (x := .int q t') ⟨_, _, rfl, hq⟩ tk
theorem bLen_ok (e : bLen args st = some outs) (ha : F2 (VR ρ σ) args xs) (F : FS Γ st ρ σ s.heap) (P : Post relE Γ ρ σ s outs Q X) : wpAny (model prg w) Γ.A (call (.builtin "len") xs) Q X s := by
  refine ha.onL1 e fun a x e h1 => ?_
  obtain ⟨g, m, os, FX⟩ := id F
  refine i_or (fun e => ?_) (fun e => i_or (fun e => ?_) (fun e => i_or (fun e => ?_) (fun e => ?_) e) e) e
  · refine h1.onBytes e fun l b t e hb => i_gd (fun e hz => ?_) e
    refine KBw.len_K rfl (by rw [← hb.length]; exact Nat.le_trans (Nat.le_of_ble_eq_true hz) (by decide)) ?_
    exact post_v (v := .int _) e P F ⟨_, _, rfl, by show _ = _; rw [← hb.length]⟩ _
  · refine FX.onTup h1 e fun i ys a vs e _ hm hvs => i_gd (fun e hz => ?_) e
    exact kun_lenT (FX.N.isTup hm) (k := ys.length) (by rw [List.size_toArray, hvs.length]) (by have := Nat.le_of_ble_eq_true hz; omega) (post_v (v := .int _) e P F ⟨_, _, rfl, rfl⟩ _)
  · refine FX.onList h1 e fun i ys a vs n e _ _ hm hvs => i_gd (fun e hz => ?_) e
    exact kun_lenL (FX.N.isList hm) (k := ys.length) (by rw [List.size_toArray, hvs.length]) (by have := Nat.le_of_ble_eq_true hz; omega) (post_v (v := .int _) e P F ⟨_, _, rfl, rfl⟩ _)
  · refine FX.onObj h1 e fun i so a o e _ _ ho hm r => i_oNuml (fun c e9 z => ?_) e
    subst z
    cases e9
    obtain ⟨vs, n, rfl, hz, hv, _⟩ := r
    refine kun_lenL (FX.N.isList hm) (k := vs.length) (by rw [List.size_toArray]) (by omega) ?_
    have F1 := FX.letter (b := (some 0, some 63, none)) (r := (vs.length : Int)) ⟨.two (Int.natCast_nonneg _) (Int.ofNat_le.mpr hz), fun D e => nomatch e⟩
    have hat := getLast_at (l := σ) (a := (vs.length : Int)) FX.blen
    exact post_one P (ρ' := ρ) (σ' := σ ++ [(vs.length : Int)]) (List.prefix_refl _) (List.prefix_append _ _) (h' := s.heap) ⟨_, _, rfl, hat⟩ ⟨g, m, os, F1.sym (so := .numl (some st.bnd.length)) ho ⟨vs, n, rfl, hz, hv, fun i e => by cases e; exact hat⟩⟩
theorem bApp_ok (e : bApp args st = some outs) (ha : F2 (VR ρ σ) args xs) (F : FS Γ st ρ σ s.heap) (P : Post relE Γ ρ σ s outs Q X) : wpAny (model prg w) Γ.A (call (.builtin "list.append") xs) Q X s := by
  refine ha.onL2 e fun a v x y e h1 h2 => ?_
  obtain ⟨g, m, os, FX⟩ := F
  refine FX.onList h1 e fun i ys ax vs n e hax ho hm hvs => i_gd (fun e hz => ?_) e
  cases e
  rw [Bool.and_eq_true] at hz
  refine PySem.W.append_K FX.F FX.N (toUpd _ (FX.upd hax ho)) (fun h' F' N' => ?_) (by rw [List.size_toArray, ← hvs.length, sizeLine_eq]; have := Nat.le_of_ble_eq_true hz.1; omega)
  exact post_nx (r := .val .none) P ⟨_, _, _, FX.set (so := .list (ys ++ [v])) F' N' ⟨vs ++ [y], n + 1, by rw [List.push_toArray], hvs.snoc h2⟩ (FX.free ho (fun t => absurd (Value.type.inj t.1) (by decide)) (bnot hz.2))⟩ (a := .none) rfl s.toks
theorem bExc_ok (XB : (hd.heap_1 w.params).In base) (e : bExc w.params args st = some outs) (ha : F2 (VR ρ σ) args xs) (F : FS Γ st ρ σ s.heap) (P : Post relE Γ ρ σ s outs Q X) : wpAny (model prg w) Γ.A (call (.builtin "Exception.__init__") xs) Q X s := by
  refine ha.onL2 e fun a v x1 x2 e h1 h2 => ?_
  obtain ⟨g, m, os, FX⟩ := F
  refine FX.onObj h1 e fun i so ax o e hax hi ho hm r => i_oExc (fun C t d e z => i_gd (fun e9 hc => ?_) e) e
  subst z
  cases e9
  obtain ⟨hd', hc1⟩ := Bool.and_eq_true_iff.mp hc
  cases bnot hd'
  obtain ⟨h3, h4⟩ := Bool.and_eq_true_iff.mp hc1
  obtain ⟨ta, od, hta, rfl, hod⟩ := r
  cases hod rfl
  obtain ⟨post, N1, hne, hback⟩ := FX.focus hax ho
  refine exc_init2 (K := hd.heap_1 w.params) (vs := [x2]) FX.F (FX.In XB) (t := ta) N1 h3 hne (Nat.le_trans (Nat.le_refl 1) (by rw [sizeLine_eq]; omega)) fun t' h' F' N' lt => ?_
  have F1 := FX.set (so := .any) (o' := excObj C t') F' (fun p hp => (List.mem_cons.mp (hback _ p hp)).elim (fun e => by rw [e]; exact N' _ (.head _)) fun hp => N' _ (.tail _ (.tail _ hp))) trivial (FX.free ho (fun z => by obtain ⟨z, _⟩ := z; cases z) (bnot h4))
  have F2 := F1.fresh' (D := t') (so := .tup [v]) (o := tupObj [x2]) ⟨fun p hp => lt ▸ (List.mem_cons.mp (hback _ p hp)).elim (fun e => by rw [e]; exact Heap.lt_size (N1 _ (.head _)).1) fun hp => Heap.lt_size (N1 _ (.tail _ hp)).1, fun p hp => N' p (by rw [List.mem_singleton.mp hp]; exact .tail _ (.head _))⟩ ⟨_, rfl, .cons (h2.mono (List.prefix_append _ _) (List.prefix_refl _)) .nil⟩
  have hil : i < st.objs.length := (List.getElem?_eq_some_iff.mp hi).1
  have hn : st.objs.length = ρ.length := FX.O.length.trans FX.len.symm
  have F3 := F2.sym (i := i) (so := .exc C st.objs.length false) (o := excObj C t') (pre_get (List.prefix_append _ _) (List.getElem?_set_self (List.getElem?_eq_some_iff.mp ho).1)) ⟨t', none, getLast_at hn, rfl, fun _ => rfl⟩
  have hset : (((st.setO i .any).addO (.tup [v])).setO i (.exc C st.objs.length false)) = ((st.addO (.tup [v])).setO i (.exc C st.objs.length false)) := by
    refine congrArg (fun z => St.mk st.loc z st.bnd st.turn st.frz st.sums) ?_
    show (st.objs.set i SO.any ++ [SO.tup [v]]).set i _ = (st.objs ++ [SO.tup [v]]).set i _
    rw [List.set_append_left _ _ (by rw [List.length_set]; exact hil), List.set_set, List.set_append_left _ _ hil]
  exact post_one P (ρ' := ρ ++ [t']) (List.prefix_append _ _) (List.prefix_refl _) (h' := h') (tk' := s.toks) (a := .none) rfl (hset ▸ ⟨g, m, _, F3⟩)
theorem bJoin_ok (e : bJoin args st = some outs) (ha : F2 (VR ρ σ) args xs) (F : FS Γ st ρ σ s.heap) (P : Post relE Γ ρ σ s outs Q X) : wpAny (model prg w) Γ.A (call (.builtin "bytes.join") xs) Q X s := by
  refine ha.onL2 e fun a v x1 x2 e h1 h2 => ?_
  refine h1.onBytes e fun l0' b t e hb => i_l0 (fun e9 z => ?_) e
  subst z
  have hb0 : b = #[] := by
    have := hb.length
    rw [KBw.ints_length] at this
    exact Array.eq_empty_of_size_eq_zero this.symm
  subst hb0
  obtain ⟨g, m, os, FX⟩ := id F
  refine FX.onList h2 e9 fun i ys ax vs n e _ _ hm hvs => i_ob (fun l e hl => i_gd (fun e hz => ?_) e) e
  obtain ⟨bs, rfl, hbs⟩ := joinB_ok hl hvs
  exact joinAll (FX.N.isList hm) (by rw [← flat_sizes, ← hbs.length]; exact Nat.le_of_ble_eq_true hz) fun b t' tk hb' => post_v (v := .bytes l) e P F ⟨_, _, rfl, by rw [hb']; exact hbs⟩ tk
theorem callB_ok (XB : (hd.heap_1 w.params).In base) (hh : Γ.A.handled = none) {id : String} (e : callB w.params id args st = some outs) (ha : F2 (VR ρ σ) args xs) (F : FS Γ st ρ σ s.heap) (P : Post relE Γ ρ σ s outs Q X) :
    wpAny (model prg w) Γ.A (call (.builtin id) xs) Q X s := by
  refine i_or (fun e => i_gd (fun e q => ?_) e) (fun e => i_or (fun e => i_gd (fun e q => ?_) e) (fun e => i_or (fun e => i_gd (fun e q => ?_) e) (fun e => i_or (fun e => i_gd (fun e q => ?_) e) (fun e => i_or (fun e => i_gd (fun e q => ?_) e) (fun e => i_or (fun e => i_gd (fun e q => ?_) e) (fun e => i_gd (fun e q => ?_) e) e) e) e) e) e) e <;> cases of_decide_eq_true q
  · exact bLen_ok e ha F P
  · refine ha.onL2 e fun a b x1 x2 e h1 h2 => ?_
    refine h1.onInt e fun n x t e hx => ?_
    refine h2.onInt e fun k y u e hy => ?_
    obtain ⟨g, m, os, FX⟩ := F
    refine max_two_N hh FX.F FX.N fun h' tk F' N' => ?_
    have hp := pick2_ok (s := { s with heap := h' }) e hx hy hy hx ⟨_, _, _, FX.moved F' N'⟩ P tk (t := u) (t' := t)
    by_cases hlt : y > x
    · rw [if_pos hlt, if_pos hlt]; exact hp.1 hlt
    · rw [if_neg hlt, if_neg hlt]; exact hp.2 hlt
  · refine ha.onL2 e fun a b x1 x2 e h1 h2 => ?_
    refine h1.onInt e fun n x t e hx => ?_
    refine h2.onInt e fun k y u e hy => ?_
    obtain ⟨g, m, os, FX⟩ := F
    refine min_two_N hh FX.F FX.N fun h' tk F' N' => ?_
    have hp := pick2_ok (s := { s with heap := h' }) e hy hx hy hx ⟨_, _, _, FX.moved F' N'⟩ P tk (t := u) (t' := t)
    by_cases hlt : y < x
    · rw [if_pos hlt, if_pos hlt]; exact hp.1 hlt
    · rw [if_neg hlt, if_neg hlt]; exact hp.2 hlt
  · exact bApp_ok e ha F P
  · exact bExc_ok XB e ha F P
  · exact bJoin_ok e ha F P
  · refine ha.onL1 e fun a x1 e h1 => ?_
    obtain ⟨g, m, os, FX⟩ := F
    refine FX.onList h1 e fun i ys ax vs n e _ _ hm hvs => i_ob (fun ns e hns => i_gd (fun e _ => ?_) e) e
    exact sum_lst hh (FX.N.isList hm) (isInts_ok hns hvs) fun h' tk t' hk => post_v (s := { s with heap := h' }) (v := .int _) e P ⟨_, _, _, FX.moved (Fr.grownK FX.F hk) (FX.N.grown hk)⟩ ⟨_, _, rfl, rfl⟩ tk
theorem zeros_ok {n : Nat} : F2 (SIR σ) (List.replicate n (.lit 0)) (List.replicate n 0) := by
  induction n with
  | zero => exact .nil
  | succ q ih => exact .cons rfl ih
theorem tBytes_ok (hh : Γ.A.handled = none) (e : tBytes args st = some outs) (ha : F2 (VR ρ σ) args xs) (F : FS Γ st ρ σ s.heap) (P : Post relE Γ ρ σ s outs Q X) : wpAny (model prg w) Γ.A (call (.type "bytes") xs) Q X s := by
  refine ha.onL1 e fun a x e h1 => ?_
  refine i_or (fun e => ?_) (fun e => i_or (fun e => ?_) (fun e => ?_) e) e
  · exact h1.onBytes e fun l b t e hb => BB.bytes_bytes fun t' tk => post_v (v := .bytes l) e P F ⟨_, _, rfl, hb⟩ tk
  · refine h1.onInt e fun n k t e hk => i_ob (fun n' e hn' => i_gd (fun e hz => ?_) e) e
    cases asLit_ok F.toBd hn' hk
    rw [Bool.and_eq_true] at hz
    exact BN.bytes_int' (of_decide_eq_true hz.1) (Int.le_trans (of_decide_eq_true hz.2) (by decide)) fun b t' tk hb => post_v (v := .bytes _) e P F ⟨_, _, rfl, by rw [hb]; exact zeros_ok⟩ tk
  · obtain ⟨g, m, os, FX⟩ := F
    refine FX.onList h1 e fun i ys ax vs n e _ _ hm hvs => i_ob (fun l e hl => i_gd (fun e hz => ?_) e) e
    rw [Bool.and_eq_true] at hz
    obtain ⟨ns, hi, hl2⟩ := allInts_ok hl hvs
    exact bytes_mk FX.F FX.N hh (FX.N.isList hm) hi (octets_ok FX.bd hz.1 hl2) (by have := Nat.le_of_ble_eq_true hz.2; rw [← hl2.length]; omega) fun b h' t' tk hb F' N' => post_v (s := { s with heap := h' }) (v := .bytes l) e P ⟨_, _, _, FX.moved F' N'⟩ ⟨_, _, rfl, by rw [hb]; exact hl2⟩ tk
theorem callT_ok (hh : Γ.A.handled = none) {id : String} (e : callT id args st = some outs) (ha : F2 (VR ρ σ) args xs) (F : FS Γ st ρ σ s.heap) (P : Post relE Γ ρ σ s outs Q X) :
    wpAny (model prg w) Γ.A (call (.type id) xs) Q X s := by
  refine i_or (fun e => i_gd (fun e q => ?_) e) (fun e => i_or (fun e => i_gd (fun e q => ?_) e) (fun e => i_or (fun e => i_gd (fun e q => ?_) e) (fun e => i_or (fun e => i_gd (fun e q => ?_) e) (fun e => i_gd (fun e q => ?_) e) e) e) e) e <;> cases of_decide_eq_true q
  · exact tBytes_ok hh e ha F P
  · refine ha.onL1 e fun a x e h1 => ?_
    obtain ⟨g, m, os, FX⟩ := id F
    refine i_or (fun e => ?_) (fun e => ?_) e
    · exact FX.onTup h1 e fun i ys ax vs e hax hm hvs => call_tuple_tup (FX.N.isTup hm) (post_v (v := .own i) e P F ⟨_, hax, rfl⟩ s.toks)
    · refine FX.onList h1 e fun i ys ax vs n e _ _ hm hvs => i_gd (fun e hz => ?_) e
      exact kde_tupleOf FX.F FX.N (FX.N.isList hm) (by rw [List.size_toArray, ← hvs.length]; exact Nat.le_of_ble_eq_true hz) rfl fun D h' F' N' lo => post_fresh e P FX F' N' lo ⟨_, rfl, VRs.mono (List.prefix_append _ _) (List.prefix_refl _) hvs⟩ s.toks
  · refine i_or (fun e => ?_) (fun e => ?_) e
    · refine ha.onL1 e fun a x e h1 => ?_
      refine h1.onInt e fun n k t e hk => ?_
      obtain ⟨st', l, e', hsub, F', _⟩ := litF_ok e hk F
      exact PySem.call_range_1 (post_new e' (P.sub hsub) F' rfl ⟨_, _, _, rfl⟩ _)
    · refine ha.onL3 e fun a b c x y z e h1 h2 h3 => ?_
      refine h1.onInt e fun n1 k1 t1 e hk1 => ?_
      refine h2.onInt e fun n2 k2 t2 e hk2 => ?_
      refine h3.onInt e fun n3 k3 t3 e hk3 => hk1.onLit e fun e => hk2.onLit e fun e => hk3.onLit e fun e => i_gd (fun e hz => ?_) e
      have hz := of_decide_eq_true hz
      exact PySem.call_range_3 hz.1 (post_new e P F rfl ⟨_, _, _, rfl⟩ _) (.inl (PyProof.noPylong_small hz.2))
  · refine ha.onL1 e fun a x e h1 => ?_
    exact h1.onBool e fun b e => PySem.call_int_bool (post_v (v := .int _) e P F ⟨_, _, rfl, by cases b <;> rfl⟩ _)
  · refine ha.onL1 e fun a x e h1 => ?_
    obtain ⟨g, m, os, FX⟩ := F
    refine FX.onList h1 e fun i ys ax vs n e _ _ hm hvs => i_gd (fun e hz => ?_) e
    refine call_list_seq ax (.inl rfl) (FX.N _ hm).1 rfl rfl (fun h' c' hk hget => ?_) (by rw [List.size_toArray, ← hvs.length]; exact Nat.le_trans (Nat.le_of_ble_eq_true hz) (by decide))
    have hL : Γ.L < s.heap.objs.size := FX.F.ns.lt
    have N' : News g Γ.L h' ((s.heap.objs.size, { cls := .type "list", data := .seq vs.toArray c' }) :: (ρ.zip os ++ Γ.extra)) := fun q hq => (List.mem_cons.mp hq).elim (fun e => by rw [e]; exact ⟨hget, Nat.ne_of_gt hL, Heap.get?_none_of_le (Nat.le_trans FX.F.above (Nat.le_of_lt hL))⟩) (FX.N.grown hk q)
    exact post_fresh e P FX (Fr.grownK FX.F hk) N' (fun p hp => Heap.lt_size (FX.N p hp).1) ⟨vs, c', rfl, VRs.mono (List.prefix_append _ _) (List.prefix_refl _) hvs⟩ s.toks
end

end
-- W18
section
/-- names the same, values related -/
noncomputable def NR {α β : Type} (R : α → β → Prop) (p : Str × α) (q : Str × β) : Prop := p.1 = q.1 ∧ R p.2 q.2
noncomputable def fillG {α : Type} (l : List (Str × α)) : List (Str × α) → List (Str × α) := List.rec (fun sl => sl) (fun p _ ih sl => ih (cnd (sl.lookup p.1).isNone (sl ++ [(p.1, p.2)]) sl)) l
/-- names, bound to arguments and defaults -/
noncomputable def bindG {α : Type} (names : List Str) (args ds0 : List α) : Option (List (Str × α)) := gd (Nat.ble args.length names.length)
  (gd ((names.take (names.length - (ds0.drop (ds0.length - names.length)).length)).filter fun n => ((names.zip args).lookup n).isNone).isEmpty
    (some (names.filterMap fun n => ((fillG ((names.drop (names.length - (ds0.drop (ds0.length - names.length)).length)).zip (ds0.drop (ds0.length - names.length))) (names.zip args)).lookup n).map (n, ·))))
section
variable {α β : Type} {R : α → β → Prop}
inductive OptR (R : α → β → Prop) : Option α → Option β → Prop
  | none : OptR R none none
  | some {a : α} {b : β} : R a b → OptR R (some a) (some b)
theorem OptR.isNone {a : Option α} {b : Option β} (h : OptR R a b) : a.isNone = b.isNone := by cases h <;> rfl
theorem F2.lookup {l : List (Str × α)} {m : List (Str × β)} (h : F2 (NR R) l m) (n : Str) : OptR R (l.lookup n) (m.lookup n) := by
  induction h with
  | nil => exact .none
  | @cons p q l m hp _ ih =>
    rw [List.lookup_cons, List.lookup_cons, hp.1]
    cases n == q.1 with
    | true => exact .some hp.2
    | false => exact ih
theorem F2.zip {l : List α} {m : List β} (h : F2 R l m) : ∀ names : List Str, F2 (NR R) (names.zip l) (names.zip m) := by
  induction h with
  | nil => intro names; rw [List.zip_nil_right, List.zip_nil_right]; exact .nil
  | cons x _ ih => intro names; cases names with
    | nil => exact .nil
    | cons n names => exact .cons ⟨rfl, x⟩ (ih names)
theorem F2.fill {l : List (Str × α)} {m : List (Str × β)} (h : F2 (NR R) l m) : ∀ {sl : List (Str × α)} {sm : List (Str × β)}, F2 (NR R) sl sm → F2 (NR R) (fillG l sl) (fillG m sm) := by
  induction h with
  | nil => exact fun hs => hs
  | @cons p q l m hp _ ih =>
    intro sl sm hs
    refine ih ?_
    rw [hp.1, (hs.lookup q.1).isNone]
    exact cnd_cases (c := (sm.lookup q.1).isNone) (P := fun z => F2 (NR R) (cnd (sm.lookup q.1).isNone (sl ++ [(q.1, p.2)]) sl) z) (fun e => by rw [e]; exact hs.snoc ⟨rfl, hp.2⟩) fun e => by rw [e]; exact hs
theorem F2.pick {l : List (Str × α)} {m : List (Str × β)} (h : F2 (NR R) l m) (names : List Str) : F2 (NR R) (names.filterMap fun n => (l.lookup n).map (n, ·)) (names.filterMap fun n => (m.lookup n).map (n, ·)) := by
  induction names with
  | nil => exact .nil
  | cons n names ih =>
    rw [List.filterMap_cons, List.filterMap_cons]
    have k := h.lookup n
    revert k
    generalize l.lookup n = a
    generalize m.lookup n = b
    intro k
    cases k with
    | none => exact ih
    | some hr => exact .cons ⟨rfl, hr⟩ ih
theorem F2.bind {names : List Str} {l ds : List α} {m ds' : List β} {b : List (Str × α)} (h : F2 R l m) (hd : F2 R ds ds') (e : bindG names l ds = some b) : ∃ b', bindG names m ds' = some b' ∧ F2 (NR R) b b' := by
  refine i_gd (fun e hl => i_gd (fun e hm => ?_) e) e
  cases e
  have hs := h.zip names
  have hf : (fun n => ((names.zip l).lookup n).isNone) = fun n => ((names.zip m).lookup n).isNone := funext fun n => (hs.lookup n).isNone
  rw [hf] at hm
  unfold bindG
  rw [← h.length, hl]
  rw [List.length_drop, hd.length] at hm
  rw [List.length_drop]
  show ∃ b', gd _ _ = some b' ∧ _
  rw [hm]
  refine ⟨_, rfl, ?_⟩
  rw [List.length_drop, hd.length]
  exact ((((hd.drop _).zip _).fill hs).pick names)
end
theorem forIn_fill {l : List (Str × Value)} {f : Str × Value → List (Str × Value) → Sem (ForInStep (List (Str × Value)))} (hf : ∀ n d sl, f (n, d) sl = pure (.yield (cnd (sl.lookup n).isNone (sl ++ [(n, d)]) sl))) : ∀ sl, forIn l sl f = pure (fillG l sl) := by
  induction l with
  | nil => intro sl; rfl
  | cons p l ih =>
    intro sl
    rw [List.forIn_cons, hf]
    exact ih _
/-- a def of plain parameters binds what was given and what was left out -/
theorem bindArgs_eq {fd : FuncData} {ps : List Arg} {kd : List (Option PySem.Expr)} {df : List PySem.Expr} {xs ds : List Value} {b : List (Str × Value)} (hp : fd.params = ⟨[], ps, none, [], kd, none, df⟩) (e : bindG (ps.map (·.arg)) xs ds = some b) :
    ∃ k : Option (Array Value) → Sem (List (Str × Value)), bindArgs fd ⟨xs, []⟩ = seqItems? fd.defaults >>= k ∧ ∀ o : Option (Array Value), (o.getD #[]).toList = ds → k o = pure b := by
  refine i_gd (fun e hl => i_gd (fun e hm => ?_) e) e
  have hl := Nat.le_of_ble_eq_true hl
  cases e
  refine ⟨_, by unfold bindArgs; rw [hp]; rfl, fun o ho => ?_⟩
  subst ho
  simp only [List.map_nil, List.nil_append]
  generalize ps.map (fun x => x.arg) = names at *
  rw [if_neg (show ¬ ((decide (xs.length > names.length) && Option.isNone none) = true) from by simp; omega)]
  rw [if_neg (by rw [hm]; decide)]
  simp only [List.append_nil]
  rw [forIn_fill (fun n d sl => by dsimp only; cases (sl.lookup n).isNone <;> rfl)]
  rfl
noncomputable def vNone {β : Type} (v : Value) (x : Option β) : Option β := match v with
  | .none => x
  | _ => none
theorem i_vNone {β : Type} {v : Value} {x : Option β} {q : β} {G : Prop} (k : x = some q → v = .none → G) (h : vNone v x = some q) : G := by cases v <;> first | exact k h rfl | exact dead h
noncomputable def parsOf (a : Arguments) : Option (List Str) := match a with
  | ⟨a, b, c, d, _, f, _⟩ => gd (a.isEmpty && (c.isNone && (d.isEmpty && f.isNone))) (some (b.map (·.arg)))
theorem parsOf_ok {a : Arguments} {l : List Str} (h : parsOf a = some l) : ∃ ps kd df, a = ⟨[], ps, none, [], kd, none, df⟩ ∧ l = ps.map (·.arg) := by
  obtain ⟨a, b, c, d, e, f, g⟩ := a
  refine i_gd (fun h q => ?_) h
  cases h
  obtain ⟨h1, q⟩ := Bool.and_eq_true_iff.mp q
  obtain ⟨h2, q⟩ := Bool.and_eq_true_iff.mp q
  obtain ⟨h3, h4⟩ := Bool.and_eq_true_iff.mp q
  rw [List.isEmpty_iff.mp h1, Option.isNone_iff_eq_none.mp h2, List.isEmpty_iff.mp h3, Option.isNone_iff_eq_none.mp h4]
  exact ⟨b, e, g, rfl, rfl⟩
section
variable (P : Params)
/-- the values of a def's parameters -/
noncomputable def dfltV (v : Value) : Option (List SV) := orE (vNone v (some [])) (vRef v fun T => ob (kget P T) fun o => dSeq o.data fun vs _ => ofKs vs.toList)
noncomputable def bindV (fd : FuncData) (args : List SV) : Option (List (Str × SV)) := ob (parsOf fd.params) fun ps => ob (dfltV P fd.defaults) fun ds => bindG ps args ds
end
theorem bindsTo_ok {ρ : List Addr} {σ : List Int} {s : Shared} (X : (hd.heap_1 w.params).In s.heap) {fd : FuncData} {args : List SV} {xs : List Value} {b : List (Str × SV)} (e : bindV w.params fd args = some b) (h : F2 (VR ρ σ) args xs) : ∃ binds, BindsTo s fd ⟨xs, []⟩ binds ∧ F2 (NR (VR ρ σ)) b binds := by
  refine i_ob (fun l e hl => i_ob (fun ds e hds => ?_) e) e
  obtain ⟨ps, kd, df, hp, rfl⟩ := parsOf_ok hl
  refine i_or (fun hds => i_vNone (fun hds hdf => ?_) hds) (fun hds => i_vRef (fun T hds hdf => i_ob (fun o hds ho => i_dSeq (fun vs n hds hd' => ?_) hds) hds) hds) hds
  · cases hds
    obtain ⟨b', e', hb⟩ := h.bind (ds' := []) .nil e
    obtain ⟨k, h1, h2⟩ := bindArgs_eq hp e'
    refine ⟨b', fun M A E Q hq => ?_, hb⟩
    rw [h1, hdf]
    exact wpAny_bind (wpAny_of_eq (a := none) rfl (h2 none rfl ▸ wpAny_pure hq))
  · obtain ⟨b', e', hb⟩ := h.bind (ofKs_ok hds) e
    obtain ⟨k, h1, h2⟩ := bindArgs_eq hp e'
    obtain ⟨oc, od, dt, sl⟩ := o
    cases (show dt = _ from hd')
    exact ⟨b', BindsTo.of_defaults hdf (X _ _ ho) rfl h1 (h2 (some vs) rfl), hb⟩
section
variable {A₀ : Around} {base h₀ G g' H : Heap} {outer : List Env} {L : Addr} {m : Str → Option Value} {env : Env}
/-- the caller's ground, when a def has come back -/
theorem turn_back (B : Below A₀ base outer h₀) (D : KtsDicts (outer.filterMap (·.frame)) h₀) (FG : Fr h₀ L G m) (hf : env.frame = some L) (T' : KtsTurn ((env :: outer).filterMap (·.frame)) G g') (k : ∀ b o, g'.get? b = some o → H.get? b = some o) :
    ∃ h₀', KtsTurn (outer.filterMap (·.frame)) h₀ h₀' ∧ (g' = G → h₀' = h₀) ∧ Fr h₀' L H m ∧ Below A₀ base outer h₀' ∧ KtsDicts (outer.filterMap (·.frame)) h₀' ∧ (∀ b, g'.get? b = none → b ≠ L ∧ h₀'.get? b = none) := by
  obtain ⟨oL, es, ep, hL, hLd, hLk, hLf⟩ := id FG.ns
  obtain ⟨sl, hs⟩ := T'.up hL
  have nL : ∀ b, g'.get? b = none → b ≠ L := fun b e q => by rw [q, hs] at e; cases e
  by_cases hg : g' = G
  · subst hg
    exact ⟨h₀, .refl, fun _ => rfl, ⟨FG.ns.at' fun o e => k _ o e, fun b o e => k _ _ (FG.keep b o e), FG.above⟩, B, D, fun b e => ⟨nL b e, kts_none FG.keep e⟩⟩
  · have nL₀ : h₀.get? L = none := kts_self FG
    obtain ⟨T₁, S₁⟩ := kts_turn_at (h := H) (fs := outer.filterMap (·.frame)) (g := h₀)
      (fun b hb => by
        obtain ⟨_, o, ho', _⟩ := B.frames.mem hb
        exact ⟨o, ho'⟩)
      (fun b o e nmem => k b o (T'.other b o (FG.keep b o e) (fun q => by
        rcases mem_frames hf q with z | z
        · rw [z, nL₀] at e
          cases e
        · exact nmem z)))
      (fun b o e hm => by
        obtain ⟨sl', hs'⟩ := T'.up (FG.keep b o e)
        exact ⟨sl', k _ _ hs'⟩)
    refine ⟨_, T₁, fun e => absurd e hg, ⟨⟨_, es, ep, k _ _ hs, hLd, hLk, hLf⟩, S₁, by rw [T₁.size]; exact FG.above⟩, ⟨B.stack, fun b o e => T₁.other b o (B.stays b o e) (fun hm => by
      rw [(B.frames.mem hm).1] at e
      cases e), B.frames.of_keeps fun b o e _ => by
      obtain ⟨sl', hs'⟩ := T₁.up e
      exact ⟨_, hs', rfl⟩⟩, D.turn T₁, fun b e => ⟨nL b e, T₁.none_ _ ?_⟩⟩
    cases q : h₀.get? b with
    | none => rfl
    | some o =>
      obtain ⟨sl', hs'⟩ := T'.up (FG.keep _ _ q)
      rw [hs'] at e
      cases e
end
section
variable {M : Model} {A : Around} {E : Value → Shared → Prop} {s' : Shared} {base g g₂ : Heap} {outer : List Env} {L e t : Addr} {m : Str → Option Value} {Q : Unit → Shared → Prop} {news : List (Addr × Obj)} {env : Env}
theorem leave_onX {cls : Value} {vs : List Value} (K : Below A base outer g) (F : Fr g L g₂ m) (hf : env.frame = some L) (R : RaisedS base g₂ (env :: outer) e cls t vs news s'.heap) (hsm : g₂.UpToSlots s'.heap)
    (hQ : ∀ h', RaisedS base g outer e cls t vs news h' → g.UpToSlots h' → Q () { s' with heap := h' }) : wpAny M (A.deeper env) (leaving env (.ref e)) Q E s' := by
  obtain ⟨⟨B, hB, hBG, hl, hfl, hnew⟩, htup⟩ := R
  exact wpAny_leaves_onW (Around.frames_deeper K.stack) hf hfl fun h' x1 x2 =>
    have R : RaisedS base g outer e cls t vs news h' := ⟨⟨B, hB, fun b o q nm => hBG b o (F.keep b o q) (fun hm => by
      rcases mem_frames hf hm with z | z
      · rw [z, kts_self F] at q
        cases q
      · exact nm z), fun q hq => ⟨(hl q hq).1, kts_none F.keep (hl q hq).2.1, (hl q hq).2.2⟩, x1, hnew⟩, htup.of_slots x2⟩
    hQ h' R ((Heap.UpToSlots.of_keeps F.keep).trans (hsm.trans x2))
end
section
variable {M : Model} {A : Around} {E : Value → Shared → Prop} {s' : Shared} {base g : Heap} {outer : List Env} {L e t C : Addr} {m : Str → Option Value} {Q : Unit → Shared → Prop} {news : List (Addr × Obj)} {od : Option Addr} {vs : List Value} {env : Env}
theorem leave_mineX (K : Below A base outer g) (F : Fr g L s'.heap m) (N : News g L s'.heap ((e, { excObj C t with dict := od }) :: (t, tupObj vs) :: news)) (hne : ∀ p ∈ news, p.1 ≠ e) (hnt : ∀ p ∈ news, p.1 ≠ t)
    (hQ : ∀ h', RaisedS base g outer e (.ref C) t vs news h' → RaisedK base outer e (.ref C) t vs news h' → g.UpToSlots h' → Q () { s' with heap := h' }) (hf : env.frame = some L) (hk : env.scope.kind = .function) :
    wpAny M (A.deeper env) (leaving env (.ref e)) Q E s' := by
  have K' := pushX K F hf hk
  obtain ⟨he, heL, heg⟩ := N _ (.head _)
  obtain ⟨ht, htL, htg⟩ := N _ (.tail _ (.head _))
  have hin : ∀ env' ∈ (env :: outer), ∀ b, env'.frame = some b → b ∈ e :: t :: (env :: outer).filterMap (·.frame) := fun env' he b hb => List.mem_cons_of_mem _ (List.mem_cons_of_mem _ (List.mem_filterMap.mpr ⟨env', he, hb⟩))
  have hbe : base.get? e = none := fresh_of_stays K.stays heg
  have hbt : base.get? t = none := fresh_of_stays K.stays htg
  have st : base.StaysIn (hideAll s'.heap (e :: t :: (env :: outer).filterMap (·.frame))) := fun b o q => hideAll_get _ (K'.stays b o q) fun hm => by
    rcases List.mem_cons.mp hm with rfl | hm
    · rw [hbe] at q; cases q
    · rcases List.mem_cons.mp hm with rfl | hm
      · rw [hbt] at q; cases q
      · rw [(K'.frames.mem hm).1] at q; cases q
  have sg : ∀ b o, g.get? b = some o → b ∉ outer.filterMap (·.frame) → (hideAll s'.heap (e :: t :: (env :: outer).filterMap (·.frame))).get? b = some o := fun b o q nm => hideAll_get _ (F.keep b o q) fun hm => by
    rcases List.mem_cons.mp hm with rfl | hm
    · rw [heg] at q; cases q
    · rcases List.mem_cons.mp hm with rfl | hm
      · rw [htg] at q; cases q
      · rcases mem_frames hf hm with z | z
        · rw [z, kts_self F] at q; cases q
        · exact nm z
  have hl : ∀ q ∈ news, (hideAll s'.heap (e :: t :: (env :: outer).filterMap (·.frame))).get? q.1 = some q.2 ∧ g.get? q.1 = none ∧ base.get? q.1 = none := fun q hq => by
    obtain ⟨n1, n2, n3⟩ := N q (.tail _ (.tail _ hq))
    refine ⟨hideAll_get _ n1 fun hm => ?_, n3, fresh_of_stays K.stays n3⟩
    rcases List.mem_cons.mp hm with z | hm
    · exact hne q hq z
    · rcases List.mem_cons.mp hm with z | hm
      · exact hnt q hq z
      · rcases mem_frames hf hm with z | z
        · exact n2 z
        · obtain ⟨_, o, ho, _⟩ := K.frames.mem z
          rw [n3] at ho; cases ho
  refine wpAny_leaving_firstW (base := hideAll s'.heap (e :: t :: (env :: outer).filterMap (·.frame))) (a0 := .ref t) K'.stack (funFrames_hide K'.frames hin) hf he (fun b o hb => of_hideAll _ hb) (hideAll_none _ (.head _)) rfl rfl rfl fun h' hL => ?_
  obtain ⟨k1, ⟨_, _, k2⟩, k3, k4⟩ := hL
  have R : RaisedS base g outer e (.ref C) t vs news h' := ⟨⟨_, st, sg, hl, ⟨k1, hideAll_none _ (.head _), k2, k3⟩, hideAll_none _ (.tail _ (.head _))⟩, Heap.TupAt.of_slots ⟨_, _, ht, rfl, rfl⟩ k4⟩
  exact hQ h' R R.toK ((Heap.UpToSlots.of_keeps F.keep).trans k4)
end
section
variable {prog : Program} {A₀ A : Around} {s : Shared} {base h₀ : Heap} {outer : List Env} {L : Addr} {m : Str → Option Value} {mine : List (Addr × Obj)} {K : Frag}
    {R : Result → Shared → Prop} {name qual : Str} {params : Arguments} {body : List Stmt} {scope : Scope} {dV kV doc pm cdv ct oc : Value} {an od : Option Addr} {osl : Array (Option Value)} {f : Addr} {args : Args} {binds : List (Str × Value)} {env : Env}
theorem code_D (B : Below A₀ base outer h₀) (F : Fr h₀ L s.heap m) (X₀ : K.In h₀) (N : News h₀ L s.heap mine) (hlim : h₀.NoLimit) (D : KtsDicts (outer.filterMap (·.frame)) h₀) (hA : A.frames = some (env :: outer)) (hf : env.frame = some L) (hke : env.scope.kind = .function)
    (ho : K.lookup f = some ⟨oc, od, .func (fnOf name qual params body scope dV kV doc pm an cdv ct), osl⟩) (hcd : codeIn K cdv qual = true) (hroom : A.depth < recursionLimit)
    (hbind : BindsTo s (fnOf name qual params body scope dV kV doc pm an cdv ct) args binds) (hkind : (binds.all fun y => scope.names.lookup y.1 == some .local || scope.names.lookup y.1 == some .cell) = true)
    (hnd : ((cellsFrom 0 scope.names []).map (·.1)).Nodup)
    (h : ∀ G l h₁ tk cells, Fr h₀ L G m → Fr G l h₁ (bindL (envOfC qual scope l f cdv).kindOf binds fun _ => none) → News G l h₁ (cells ++ mine) →
      CellsAre (bindC (envOfC qual scope l f cdv).kindOf binds fun _ => none) (cellsFrom (l + 1) scope.names []) cells → Below A base (env :: outer) G → KtsDicts ((env :: outer).filterMap (·.frame)) G → (∀ q ∈ mine, q.1 < l) →
      wpAny (model prog w) (A.deeper (envOfC qual scope l f cdv)) (execs body (envOfC qual scope l f cdv))
        (fun fl s' => R (.ok (.ret (match fl with | .ret v => v | _ => .none))) s')
        (fun e s' => wpAny (model prog w) (A.deeper (envOfC qual scope l f cdv)) (leaving (envOfC qual scope l f cdv) e) (fun _ s'' => R (.error e) s'') (fun e' s'' => R (.error e') s'') s')
        { s with heap := h₁, toks := tk })
    (hco : scope.isCoroutine = false) (hgen : scope.isGenerator = false) (hk : scope.kind = .function) : codeAny (model prog w) A (.call (.ref f) args) R s := by
  obtain ⟨FG, BG, st, lv⟩ := groundX (R := R) B F N hA hf hke
  obtain ⟨oL, es, ep, hL, hLd, hLk, hLf⟩ := id FG.ns
  refine codeAny_call_function hroom (F.keep _ _ (X₀ _ _ ho)) rfl hco hgen rfl (codeRec_of (X₀.keeps F.keep) hcd) (hbind _ _ _ _ ?_)
  refine wpAny_newFunctionEnv_cells hk (kindsX hkind _) fun env' he s' x => ?_
  subst he
  refine ⟨(hlim.keeps F.keep).keeps x.toInCall.keep, codeAny_func ?_⟩
  obtain ⟨h₁, tk, rfl, _⟩ := x.done
  have hk₁ := x.toInCall.keep
  obtain ⟨cells, NC, Y⟩ := Cl.news (h₀ := s.heap) (Nat.le_refl _) fun n c hm => ⟨x.cell n c (lookup_of_mem_nodup (cellsFrom_names scope.names 0 (s.heap.objs.size + 1) [] [] rfl ▸ hnd) hm), x.above n c hm⟩
  refine wpAny_mono (h _ _ h₁ tk cells FG ⟨x.toInCall.ns, fun b o e => hk₁ b o (of_hideAll _ e), Nat.le_of_eq (hideAll_size _ _)⟩ (fun q hq => ?_) Y BG (fun b hb => ?_) (fun q hq => Heap.lt_size (N q hq).1)) (fun fl s' hl => hl) fun _ _ y => y
  · rcases List.mem_append.mp hq with hq | hq
    · refine ⟨(NC q hq).1, (NC q hq).2.1, ?_⟩
      cases e : (hideAll s.heap (mine.map (·.1))).get? q.1 with
      | none => rfl
      | some o => have := of_hideAll _ e; rw [(NC q hq).2.2] at this; cases this
    · exact ⟨hk₁ _ _ (N q hq).1, Nat.ne_of_lt (Heap.lt_size (N q hq).1), hideAll_none _ (List.mem_map_of_mem hq)⟩
  · rcases mem_frames hf hb with rfl | hb
    · exact ⟨oL, es, ep, hL, hLd⟩
    · obtain ⟨o, es', n', ho', hd'⟩ := D b hb
      exact ⟨o, es', n', FG.keep b o ho', hd'⟩
end

end
-- W19
section
theorem cells_addrs {cm : Str → Option Value} {cs : List (Str × Addr)} {cells : List (Addr × Obj)} (x : CellsAre cm cs cells) : cells.map (·.1) = cs.map (·.2) := by
  induction x with
  | nil => rfl
  | cons _ _ ih => rw [List.map_cons, List.map_cons, ih]
theorem zip_unzip {α β : Type} {l : List (α × β)} : (l.map (·.1)).zip (l.map (·.2)) = l := by
  induction l with
  | nil => rfl
  | cons p l ih => rw [List.map_cons, List.map_cons, List.zip_cons_cons, ih]
theorem cellsFrom_addr {names : List (Str × NameKind)} : ∀ {n : Nat} {acc : List (Str × Addr)}, (acc.map (·.2)).Nodup → (∀ p ∈ acc, p.2 < n) → ((cellsFrom n names acc).map (·.2)).Nodup ∧ ∀ p ∈ cellsFrom n names acc, p ∈ acc ∨ n ≤ p.2 := by
  induction names with
  | nil => intro n acc h1 _; exact ⟨h1, fun p hp => .inl hp⟩
  | cons q r ih =>
    intro n acc h1 h2
    obtain ⟨x, k⟩ := q
    by_cases hk : k = .cell
    · subst hk
      obtain ⟨a, b⟩ := ih (n := n + 1) (acc := (x, n) :: acc) (List.nodup_cons.mpr ⟨fun m => by
        obtain ⟨p, hp, e⟩ := List.mem_map.mp m
        exact Nat.lt_irrefl _ (e ▸ h2 p hp), h1⟩) (fun p hp => (List.mem_cons.mp hp).elim (fun e => by rw [e]; exact Nat.lt_succ_self _) fun hp => Nat.lt_succ_of_lt (h2 p hp))
      exact ⟨a, fun p hp => (b p hp).elim (fun h => (List.mem_cons.mp h).elim (fun e => by rw [e]; exact .inr (Nat.le_refl _)) .inl) fun h => .inr (Nat.le_of_succ_le h)⟩
    · have e : cellsFrom n ((x, k) :: r) acc = cellsFrom n r acc := by cases k <;> first | rfl | exact absurd rfl hk
      rw [e]
      exact ih h1 h2
noncomputable def zipI (i : Nat) (l : List Str) : List (Str × Nat) := List.rec (fun _ => []) (fun x _ ih i => (x, i) :: ih (i + 1)) l i
theorem zipI_ok {x : Str} {cs : List (Str × Addr)} : ∀ {n i : Nat}, (zipI n (cs.map (·.1))).lookup x = some i → ∃ j a, i = n + j ∧ (cs.map (·.2))[j]? = some a ∧ cs.lookup x = some a := by
  induction cs with
  | nil => intro n i e; exact dead e
  | cons q cs ih =>
    intro n i e
    have e : ((q.1, n) :: zipI (n + 1) (cs.map (·.1))).lookup x = some i := e
    rw [List.lookup_cons] at e
    rw [List.lookup_cons]
    cases z : x == q.1 with
    | true => rw [z] at e; cases e; exact ⟨0, q.2, rfl, rfl, rfl⟩
    | false =>
      rw [z] at e
      obtain ⟨j, a', h1, h2, h3⟩ := ih e
      exact ⟨j + 1, a', h1.trans (Nat.succ_add_eq_add_succ n j), h2, h3⟩
section
variable {ρ : List Addr} {σ : List Int}
noncomputable def locL (sc : Scope) (l : List (Str × SV)) : List (Str × SV) → List (Str × SV) := List.rec (fun l => l) (fun p _ ih l => ih (cnd (sc.names.lookup p.1 == some .local) ((p.1, p.2) :: l) l)) l
noncomputable def cellL (sc : Scope) (l : List (Str × SV)) : List (Str × SV) → List (Str × SV) := List.rec (fun l => l) (fun p _ ih l => ih (cnd (sc.names.lookup p.1 == some .local) l ((p.1, p.2) :: l))) l
theorem locL_ok {sc : Scope} {kindOf : Str → Option NameKind} (hk : ∀ x, kindOf x = sc.names.lookup x) {b : List (Str × SV)} {binds : List (Str × Value)} (h : F2 (NR (VR ρ σ)) b binds) : ∀ {acc : List (Str × SV)} {m : Str → Option Value}, (∀ x v, acc.lookup x = some v → ∃ v', m x = some v' ∧ VR ρ σ v v') →
    ∀ x v, (locL sc b acc).lookup x = some v → ∃ v', bindL kindOf binds m x = some v' ∧ VR ρ σ v v' := by
  induction h with
  | nil => exact fun h => h
  | @cons p q b binds hp _ ih =>
    intro acc m h
    unfold bindL
    refine ih fun x u e => ?_
    rw [hp.1] at e
    by_cases z : sc.names.lookup q.1 = some .local
    · rw [if_pos ((hk q.1).trans z)]
      rw [beq_iff_eq.mpr z] at e
      have e : ((q.1, p.2) :: acc).lookup x = some u := e
      rw [List.lookup_cons] at e
      by_cases y : x = q.1
      · rw [beq_iff_eq.mpr y] at e
        cases e
        exact ⟨q.2, if_pos y, hp.2⟩
      · rw [beq_eq_false_iff_ne.mpr y] at e
        obtain ⟨w, a, b⟩ := h x u e
        exact ⟨w, (if_neg y).trans a, b⟩
    · rw [if_neg fun y => z ((hk q.1).symm.trans y)]
      rw [beq_eq_false_iff_ne.mpr z] at e
      exact h x u e
theorem cellL_ok {sc : Scope} {kindOf : Str → Option NameKind} (hk : ∀ x, kindOf x = sc.names.lookup x) {b : List (Str × SV)} {binds : List (Str × Value)} (h : F2 (NR (VR ρ σ)) b binds) : ∀ {acc : List (Str × SV)} {m : Str → Option Value}, (∀ x, OptR (VR ρ σ) (acc.lookup x) (m x)) → ∀ x, OptR (VR ρ σ) ((cellL sc b acc).lookup x) (bindC kindOf binds m x) := by
  induction h with
  | nil => exact fun h => h
  | @cons p q b binds hp _ ih =>
    intro acc m h
    unfold bindC
    refine ih fun x => ?_
    rw [hp.1]
    by_cases z : sc.names.lookup q.1 = some .local
    · rw [if_pos ((hk q.1).trans z), beq_iff_eq.mpr z]
      exact h x
    · rw [if_neg fun y => z ((hk q.1).symm.trans y), beq_eq_false_iff_ne.mpr z]
      show OptR (VR ρ σ) (((q.1, p.2) :: acc).lookup x) _
      rw [List.lookup_cons]
      by_cases y : x = q.1
      · rw [beq_iff_eq.mpr y, if_pos y]
        exact .some hp.2
      · rw [beq_eq_false_iff_ne.mpr y, if_neg y]
        exact h x
theorem cells_or {cm : Str → Option Value} {lk : Str → Option SV} (h : ∀ x, OptR (VR ρ σ) (lk x) (cm x)) {cs : List (Str × Addr)} {cells : List (Addr × Obj)} (C : CellsAre cm cs cells) : F2 (OR ρ σ) ((cs.map (·.1)).map fun n => .cell (lk n)) (cells.map (·.2)) := by
  induction C with
  | nil => exact .nil
  | @cons n a o cs cells hd _ ih =>
    refine .cons ?_ ih
    have k := h n
    show OR ρ σ (.cell (lk n)) o
    revert k hd
    generalize lk n = z
    generalize cm n = y
    intro hd k
    cases k with
    | none => exact hd
    | some hr => exact ⟨_, hd, hr⟩
end
noncomputable def nodupS (l : List Str) : Bool := List.rec true (fun x r ih => !(r.contains x) && ih) l
theorem nodupS_ok {l : List Str} : nodupS l = true → l.Nodup := by
  induction l with
  | nil => exact fun _ => .nil
  | cons x r ih =>
    intro h
    obtain ⟨h1, h2⟩ := Bool.and_eq_true_iff.mp h
    refine List.nodup_cons.mpr ⟨fun m => ?_, ih h2⟩
    rw [List.contains_iff_mem.mpr m] at h1
    cases h1
noncomputable def kindsOk (sc : Scope) (l : List (Str × SV)) : Bool := l.all fun y => sc.names.lookup y.1 == some .local || sc.names.lookup y.1 == some .cell
theorem kinds_same {sc : Scope} {ρ : List Addr} {σ : List Int} {b : List (Str × SV)} {binds : List (Str × Value)} (h : F2 (NR (VR ρ σ)) b binds) : kindsOk sc b = true → (binds.all fun y => sc.names.lookup y.1 == some .local || sc.names.lookup y.1 == some .cell) = true := by
  induction h with
  | nil => exact fun _ => rfl
  | @cons p q b binds hp _ ih =>
    intro h
    obtain ⟨h1, h2⟩ := Bool.and_eq_true_iff.mp (show ((sc.names.lookup p.1 == some .local || sc.names.lookup p.1 == some .cell) && kindsOk sc b) = true from h)
    rw [hp.1] at h1
    exact Bool.and_eq_true_iff.mpr ⟨h1, ih h2⟩
noncomputable def restore (st st' : St) : St := ⟨st.loc, st'.objs, st'.bnd, st.turn || st'.turn, st.frz, st'.sums⟩
/-- excs pass, but their frames' names are the caller's -/
noncomputable def excBack (st : St) (l : List (RR × St)) : List (RR × St) := l.map fun o => (o.1, cnd (isExc o.1) (restore st o.2) o.2)
theorem excBack_mem {st : St} {o : RR × St} {l : List (RR × St)} (h : o ∈ l) : (o.1, cnd (isExc o.1) (restore st o.2) o.2) ∈ excBack st l := List.mem_map_of_mem (f := fun o : RR × St => (o.1, cnd (isExc o.1) (restore st o.2) o.2)) h
noncomputable def back (st : St) (r : RR) (st' : St) : Outs := RR.rec (fun _ => none) (fun _ => none) (fun _ => none) (okv .none (restore st st')) (fun v => okv v (restore st st')) (fun _ => none) r
noncomputable def backE (st : St) (r : RR) (st' : St) : Outs := RR.rec (fun v => okv v (restore st st')) (fun _ => none) (fun _ => none) none (fun _ => none) (fun _ => none) r
noncomputable def cellNames (names : List (Str × NameKind)) : List Str := (cellsFrom 0 names []).map (·.1)
noncomputable def dFunc {β : Type} (v : Data) (f : FuncData → Option β) : Option β := match v with
  | .func a => f a
  | _ => none
theorem i_dFunc {β : Type} {v : Data} {f : FuncData → Option β} {q : β} {G : Prop} (k : ∀ a, f a = some q → v = .func a → G) (h : dFunc v f = some q) : G := by cases v <;> first | exact k _ h rfl | exact dead h
noncomputable def bStmts (v : FuncBody) : Option (List Stmt) := match v with
  | .stmts a => some a
  | _ => none
theorem bStmts_ok {v : FuncBody} {l : List Stmt} (h : bStmts v = some l) : v = .stmts l := by cases v <;> first | (cases h; rfl) | exact dead h
section
variable (P : Params)
noncomputable def okFn (fd : FuncData) (b : List (Str × SV)) : Bool := kindsOk fd.scope b && (nodupS (cellNames fd.scope.names) && (Nat.beq fd.globals mainGlobals && (fd.closure.isEmpty && (Nat.beq fd.builtins builtinsNs && (codeIn (hd.heap_1 P) fd.code fd.qualname && (!fd.scope.isCoroutine && (!fd.scope.isGenerator && (fd.scope.kind == .function))))))))
noncomputable def fnSC (fd : FuncData) (lvl n : Nat) : SC := ⟨fd.scope, zipI n (cellNames fd.scope.names), none, lvl, true, fd.code, fd.qualname⟩
noncomputable def fnSt (sc : Scope) (b : List (Str × SV)) (st : St) : St := ⟨locL sc b [], st.objs ++ (cellNames sc.names).map (fun n => .cell ((cellL sc b []).lookup n)), st.bnd, false, st.frz, st.sums⟩
/-- a def's call: what its body sees and starts from -/
noncomputable def enter (lvl : Nat) (f : Addr) (args : List SV) (st : St) : Option (SC × List Stmt × St) := Nat.rec none (fun lvl _ => ob (kget P f) fun o => dFunc o.data fun fd => ob (bStmts fd.body) fun body => ob (bindV P fd args) fun b => gd (okFn P fd b) (some (fnSC fd lvl st.objs.length, body, fnSt fd.scope b st))) lvl
end
/-- what is known of a def that may be entered -/
inductive FnR (P : Params) (f : Addr) (body : List Stmt) (b : List (Str × SV)) : FuncData → Prop
  | mk {qual : Str} {params : Arguments} {scope : Scope} {dV cdv oc : Value} {od : Option Addr} {osl : Array (Option Value)} {name : Str} {kV doc pm : Value} {an : Option Addr} {ct : Value} (ho : (hd.heap_1 P).lookup f = some ⟨oc, od, .func (fnOf name qual params body scope dV kV doc pm an cdv ct), osl⟩) (k1 : kindsOk scope b = true) (k2 : nodupS (cellNames scope.names) = true) (k6 : codeIn (hd.heap_1 P) cdv qual = true) (k7 : scope.isCoroutine = false) (k8 : scope.isGenerator = false) (k9 : scope.kind = .function) : FnR P f body b (fnOf name qual params body scope dV kV doc pm an cdv ct)
theorem okFn_ok {P : Params} {f : Addr} {o : Obj} {fd : FuncData} {body : List Stmt} {b : List (Str × SV)} (ho : kget P f = some o) (hd' : o.data = .func fd) (hb : fd.body = .stmts body) (h : okFn P fd b = true) : FnR P f body b fd := by
  obtain ⟨oc, od, dt, osl⟩ := o
  cases (show dt = _ from hd')
  obtain ⟨name, qual, params, fbody, scope, globals, closure, dV, kV, doc, pm, an, cdv, ct, blt⟩ := fd
  cases (show fbody = _ from hb)
  obtain ⟨k1, h⟩ := Bool.and_eq_true_iff.mp h
  obtain ⟨k2, h⟩ := Bool.and_eq_true_iff.mp h
  obtain ⟨k3, h⟩ := Bool.and_eq_true_iff.mp h
  obtain ⟨k4, h⟩ := Bool.and_eq_true_iff.mp h
  obtain ⟨k5, h⟩ := Bool.and_eq_true_iff.mp h
  obtain ⟨k6, h⟩ := Bool.and_eq_true_iff.mp h
  obtain ⟨k7, h⟩ := Bool.and_eq_true_iff.mp h
  obtain ⟨k8, k9⟩ := Bool.and_eq_true_iff.mp h
  cases (show globals = _ from Nat.eq_of_beq_eq_true k3)
  cases (show closure = _ from List.isEmpty_iff.mp k4)
  cases (show blt = _ from Nat.eq_of_beq_eq_true k5)
  exact .mk ho k1 k2 k6 (bnot k7) (bnot k8) (beq_iff_eq.mp k9)
section
variable {Γ : FC} {st : St} {ρ : List Addr} {σ : List Int} {s : Shared} {X : Value → Shared → Prop} {outs : List (RR × St)} {ih : Run} {sc : SC} {Q : Value → Shared → Prop} {h g : Heap} {m : Str → Option Value} {os : List Obj}
/-- a def's frame, above its caller's -/
@[reducible] noncomputable def FC.callee (Γ : FC) (cn : Str) (cs : Scope) (l a : Addr) (ccd : Value) (cl : List (Str × Addr)) (g : Heap) (own : Bool) : FC := ⟨cn, cs, l, a, ccd, cl, Γ.env :: Γ.outer, Γ.A, Γ.A.deeper (envX cn cs l a ccd cl), g, Γ.extra, none, Γ.fz, own⟩
section
variable {cn : Str} {cs : Scope} {l a : Addr} {ccd : Value} {cl : List (Str × Addr)} {G : Heap} {own : Bool} {st2 : St} {ρ1 : List Addr} {σ1 : List Int} {h2 : Heap}
/-- the callee has come back -/
theorem FSx.home (FX : FSx Γ st ρ σ h g m os) (FG : Fr g Γ.L G m) (hrr : ρ <+: ρ1) (hs : σ <+: σ1) (FF : FS (Γ.callee cn cs l a ccd cl G own) st2 ρ1 σ1 h2) : FS Γ (restore st st2) ρ1 σ1 h2 := by
  obtain ⟨g2, m2, os2, F2⟩ := FF
  obtain ⟨h₀', T₁, hsame, Fh, B3, D3, hnone⟩ := turn_back FX.B FX.D FG rfl F2.T F2.F.keep
  exact ⟨h₀', m, os2, FX.T.trans T₁, fun e => (hsame (F2.T0 (Bool.or_eq_false_iff.mp e).2)).trans (FX.T0 (Bool.or_eq_false_iff.mp e).1), B3, D3, Fh, fun q hq => ⟨(F2.N q hq).1, (hnone _ (F2.N q hq).2.2).1, (hnone _ (F2.N q hq).2.2).2⟩, F2.O, F2.len,
    fun x v e => by obtain ⟨v', a, b⟩ := FX.M x v e; exact ⟨v', a, b.mono hrr hs⟩, F2.asc, F2.ap, F2.bd, F2.sm, FX.Mp, fun q hq => ⟨(F2.Z q hq).1, (FX.Z q hq).2⟩⟩
/-- an exception has left the callee -/
theorem XS.home {M : Model} {E : Value → Shared → Prop} {Q : Unit → Shared → Prop} {C e : Addr} (FX : FSx Γ st ρ σ h g m os) (FG : Fr g Γ.L G m) (hrr : ρ <+: ρ1) (hs : σ <+: σ1) (k9 : cs.kind = .function) (XX : XS (Γ.callee cn cs l a ccd cl G own) st2 C e ρ1 σ1 s.heap) (k : ∀ h', XS Γ (restore st st2) C e ρ1 σ1 h' → Q () { s with heap := h' }) :
    wpAny M (Γ.A.deeper (envX cn cs l a ccd cl)) (leaving (envX cn cs l a ccd cl) (.ref e)) Q E s := by
  have hM : ∀ x v, (restore st st2).loc.lookup x = some v → ∃ v', m x = some v' ∧ VR ρ1 σ1 v v' := fun x v e => by obtain ⟨v', a, b⟩ := FX.M x v e; exact ⟨v', a, b.mono hrr hs⟩
  rcases XX with XX | XX
  · obtain ⟨g2, m2, os2, g₁, t, vs, T, T0, B, D, Fq, R, U, O, len, M, asc, ap, bd, sm, Z⟩ := XX
    refine leave_onX B Fq rfl R U fun h' R' U' => ?_
    obtain ⟨h₀', T₁, hsame, Fh, B3, D3, hnone⟩ := turn_back (H := g2) FX.B FX.D FG rfl T (fun _ _ e => e)
    exact k h' (.inl ⟨h₀', m, os2, g2, t, vs, FX.T.trans T₁, fun q => (hsame (T0 (Bool.or_eq_false_iff.mp q).2)).trans (FX.T0 (Bool.or_eq_false_iff.mp q).1), B3, D3, Fh, R', U', O, len, hM, asc, ap, bd, sm, fun q hq => ⟨(Z q hq).1, (FX.Z q hq).2⟩⟩)
  · obtain ⟨_, g2, m2, os2, t, vs, od', F2, N2, off⟩ := XX
    have NN : News g2 l s.heap ((e, { excObj C t with dict := od' }) :: (t, tupObj vs) :: (ρ1.zip os2 ++ Γ.extra)) := fun q hq => (List.mem_cons.mp hq).elim (fun e => by rw [e]; exact N2 _ (.head _)) fun hq => (List.mem_cons.mp hq).elim (fun e => by rw [e]; exact N2 _ (.tail _ (.head _))) (F2.N q)
    refine leave_mineX F2.B F2.F NN (fun q hq => (off q hq).1) (fun q hq => (off q hq).2) (fun h' R' _ U' => ?_) rfl k9
    obtain ⟨h₀', T₁, hsame, Fh, B3, D3, hnone⟩ := turn_back (H := g2) FX.B FX.D FG rfl F2.T (fun _ _ e => e)
    exact k h' (.inl ⟨h₀', m, os2, g2, t, vs, FX.T.trans T₁, fun q => (hsame (F2.T0 (Bool.or_eq_false_iff.mp q).2)).trans (FX.T0 (Bool.or_eq_false_iff.mp q).1), B3, D3, Fh, R', U', F2.O, F2.len, hM, F2.asc, F2.ap, F2.bd, F2.sm, fun q hq => ⟨(F2.Z q hq).1, (FX.Z q hq).2⟩⟩)
end
theorem WF.down {lvl : Nat} (W : WF Γ (lvl + 1)) {cn : Str} {cs : Scope} {l a : Addr} {ccd : Value} {cl : List (Str × Addr)} {G : Heap} {own : Bool} (k9 : cs.kind = .function) : WF (Γ.callee cn cs l a ccd cl G own) lvl :=
  { frames := Around.frames_deeper W.frames, hand := W.hand, kind := k9, room := by have := W.room; show Γ.A.depth + 1 + 4 * lvl + 8 < _; omega, units := by have := W.units; show Γ.A.units + 3 + 30 * lvl + 200 < _; omega }
theorem WF.dep {lvl : Nat} (W : WF Γ lvl) : Γ.A.depth < recursionLimit := by have := W.room; omega
/-- the callee's objects and names, at the start -/
theorem FSx.start (FX : FSx Γ st ρ σ h g m os) {cn : Str} {cs : Scope} {l a : Addr} {ccd : Value} {cl : List (Str × Addr)} {G h₁ : Heap} {own : Bool} {kindOf : Str → Option NameKind} (hk : ∀ x, kindOf x = cs.names.lookup x) {b : List (Str × SV)} {binds : List (Str × Value)} {cells : List (Addr × Obj)} (hbb : F2 (NR (VR ρ σ)) b binds)
    (FG : Fr G l h₁ (bindL kindOf binds fun _ => none)) (N' : News G l h₁ (cells ++ (ρ.zip os ++ Γ.extra))) (Y : CellsAre (bindC kindOf binds fun _ => none) (cellsFrom (l + 1) cs.names []) cells) (B' : Below Γ.A base (Γ.env :: Γ.outer) G) (D' : KtsDicts ((Γ.env :: Γ.outer).filterMap (·.frame)) G) (lo : ∀ q ∈ ρ.zip os ++ Γ.extra, q.1 < l) :
    FSx (Γ.callee cn cs l a ccd cl G own) (fnSt cs b st) (ρ ++ cells.map (·.1)) σ h₁ G (bindL kindOf binds fun _ => none) (os ++ cells.map (·.2)) := by
  have hname : (cellsFrom (l + 1) cs.names []).map (·.1) = cellNames cs.names := cellsFrom_names _ _ _ _ _ rfl
  have haddr : cells.map (·.1) = (cellsFrom (l + 1) cs.names []).map (·.2) := cells_addrs Y
  obtain ⟨hnd, hab⟩ := cellsFrom_addr (names := cs.names) (n := l + 1) (acc := []) .nil (fun _ h => nomatch h)
  have habove : ∀ a ∈ cells.map (·.1), l < a := fun a hm => by
    rw [haddr] at hm
    obtain ⟨q, hq, rfl⟩ := List.mem_map.mp hm
    exact (hab q hq).elim (fun h => nomatch h) fun h => h
  have hbelow : ∀ a ∈ ρ, a < l := fun a hm => by
    obtain ⟨o, ho⟩ := zip_mem FX.len hm
    exact lo _ (List.mem_append_left _ ho)
  have hpre : ρ <+: ρ ++ cells.map (·.1) := List.prefix_append _ _
  have hbb' : F2 (NR (VR (ρ ++ cells.map (·.1)) σ)) b binds := hbb.mono fun _ _ y => ⟨y.1, y.2.mono hpre (List.prefix_refl _)⟩
  have hobj := cells_or (lk := fun n => (cellL cs b []).lookup n) (cellL_ok hk hbb' fun x => .none) Y
  exact {
    T := .refl
    T0 := fun _ => rfl
    B := B'
    D := D'
    F := FG
    N := fun q hq => N' q (by
      rw [List.zip_append FX.len, zip_unzip] at hq
      exact (List.mem_append.mp hq).elim (fun h => (List.mem_append.mp h).elim (fun h => List.mem_append_right _ (List.mem_append_left _ h)) fun h => List.mem_append_left _ h) fun h => List.mem_append_right _ (List.mem_append_right _ h))
    O := (FX.O.mono fun _ _ y => y.mono hpre (List.prefix_refl _)).append (by rw [← hname]; exact hobj)
    len := by rw [List.length_append, List.length_append, FX.len, List.length_map, List.length_map]
    M := locL_ok hk hbb' fun x v e => nomatch e
    asc := List.nodup_append.mpr ⟨FX.asc, by rw [haddr]; exact hnd, fun a ha b hb e => absurd (hbelow a ha) (Nat.lt_asymm (e ▸ habove b hb))⟩
    ap := fun q hq hm => (List.mem_append.mp hm).elim (FX.ap q hq) fun hm => absurd (lo q (List.mem_append_right _ hq)) (Nat.lt_asymm (habove _ hm))
    bd := FX.bd
    sm := FX.sm
    Mp := fun m₀ e => nomatch e
    Z := fun q hq => ⟨pre_get (List.prefix_append _ _) (FX.Z q hq).1, (FX.Z q hq).2⟩ }
/-- a def's own cells -/
theorem start_cells {ρ : List Addr} {n l : Nat} {cs : Scope} {cm : Str → Option Value} {cells : List (Addr × Obj)} (hn : ρ.length = n) (Y : CellsAre cm (cellsFrom (l + 1) cs.names []) cells) : CellsR (ρ ++ cells.map (·.1)) (zipI n (cellNames cs.names)) (cellsFrom (l + 1) cs.names []) := fun x i e => by
  have hname : (cellsFrom (l + 1) cs.names []).map (·.1) = cellNames cs.names := cellsFrom_names _ _ _ _ _ rfl
  rw [← hname] at e
  obtain ⟨j, a, h1, h2, h3⟩ := zipI_ok e
  refine ⟨a, ?_, h3⟩
  rw [h1, ← hn, List.getElem?_append_right (Nat.le_add_right _ _), Nat.add_sub_cancel_left, cells_addrs Y]
  exact h2
/-- a def's call -/
theorem def_okC (XB : (hd.heap_1 w.params).In base) (TB : Top p loose mean mg mb base) {lvl : Nat} {f : Addr} {args : List SV} {xs : List Value} {sc' : SC} {body : List Stmt} {st' : St} {l : List (RR × St)} (he : enter w.params lvl f args st = some (sc', body, st')) (hS : SsG sc' body st' l) (hb : bndL (back st) (excBack st l) = some outs)
    (W : WF Γ lvl) (ha : F2 (VR ρ σ) args xs) (F : FS Γ st ρ σ s.heap) (P : Post relE Γ ρ σ s outs Q X) : codeAny (model prg w) Γ.A (.call (.ref f) ⟨xs, []⟩) (fun r s' => match r with | .ok (.ret v) => Q v s' | .ok _ => False | .error e => X e s') s := by
  obtain ⟨g, m, os, FX⟩ := F
  cases lvl with
  | zero => exact dead he
  | succ lvl =>
    refine i_ob (fun o he1 ho => i_dFunc (fun fd he2 hfd => i_ob (fun body' he3 hbody => i_ob (fun b he4 hbv => i_gd (fun he5 hok => ?_) he4) he3) he2) he1) he
    cases he5
    have XH : (hd.heap_1 w.params).In s.heap := Frag.In.keeps (FX.In XB) (Fr.keep FX.F)
    obtain ⟨binds, hbind, hbb⟩ := bindsTo_ok XH hbv ha
    obtain ⟨ho, k1, k2, k6, k7, k8, k9⟩ := okFn_ok ho hfd (bStmts_ok hbody) hok
    have sp := bndL_spec hb
    refine code_D (K := hd.heap_1 w.params) FX.B FX.F (FX.In XB) FX.N (FX.Tp TB).nolimit FX.D W.frames rfl W.kind ho k6 W.dep hbind (kinds_same hbb k1) (nodupS_ok k2) (fun G l h₁ tk cells FG F' N' Y B' D' lo => ?_) k7 k8 k9
    refine hS (Γ.callee _ _ l f _ (cellsFrom (l + 1) _ []) G true) (ρ ++ cells.map (·.1)) σ (sat s h₁ tk) _ _ (W.down k9) ⟨rfl, rfl, start_cells (FX.len.trans FX.O.length.symm) Y, rfl, .inr rfl, rfl⟩ (fun _ => PassesOwn.leaving) rfl ⟨_, _, _, FX.start (fun _ => rfl) hbb F' N' Y B' D' lo⟩ fun o hol ρ1 σ1 h2 tk2 hr hs => ?_
    have hrr : ρ <+: ρ1 := (List.prefix_append _ _).trans hr
    obtain ⟨o1, st2⟩ := o
    refine ⟨fun fl hfl FF => ?_, fun C e hC XX => XS.home FX FG hrr hs k9 XX fun h' XX => ?_⟩
    · have FB := FX.home FG hrr hs FF
      cases o1 <;> try exact absurd hfl (fun z => z)
      · cases hfl
        obtain ⟨l2, e2, mm⟩ := (sp _ (excBack_mem hol)).2 rfl
        cases e2
        exact (P _ (mm _ (.head _)) ρ1 σ1 h2 tk2 hrr hs).1 .none rfl FB
      · obtain ⟨y, rfl, hy⟩ := hfl
        obtain ⟨l2, e2, mm⟩ := (sp _ (excBack_mem hol)).2 rfl
        cases e2
        exact (P _ (mm _ (.head _)) ρ1 σ1 h2 tk2 hrr hs).1 y hy FB
    · cases hC
      exact (P _ ((sp _ (excBack_mem hol)).1 rfl) ρ1 σ1 h' tk2 hrr hs).2 C e rfl XX
/-- a lambda's call -/
theorem code_L {A₀ A : Around} {s : Shared} {base h₀ : Heap} {outer : List Env} {L : Addr} {m : Str → Option Value} {mine : List (Addr × Obj)} {R : Result → Shared → Prop} {qual : Str} {body : PySem.Expr} {scope : Scope} {cl : List (Str × Addr)} {pm ctv : Value} {c' f : Addr} {env : Env}
    (B : Below A₀ base outer h₀) (F : Fr h₀ L s.heap m) (N : News h₀ L s.heap mine) (hlim : h₀.NoLimit) (D : KtsDicts (outer.filterMap (·.frame)) h₀) (hA : A.frames = some (env :: outer)) (hf : env.frame = some L) (hke : env.scope.kind = .function)
    (ho : (f, kla_obj "<lambda>" qual noPars body scope cl pm c' ctv) ∈ mine) (hcd : s.heap.CodeRec (.ref c') qual) (hroom : A.depth < recursionLimit)
    (h : ∀ G l h₁, Fr h₀ L G m → Fr G l h₁ (fun y => ([] : List (Str × Value)).reverse.lookup y) → News G l h₁ mine → Below A base (env :: outer) G → KtsDicts ((env :: outer).filterMap (·.frame)) G → (∀ q ∈ mine, q.1 < l) →
      wpAny (model prg w) (A.deeper (envX qual scope l f (.ref c') cl)) (eval body (envX qual scope l f (.ref c') cl))
        (fun v s' => R (.ok (.ret v)) s')
        (fun e s' => wpAny (model prg w) (A.deeper (envX qual scope l f (.ref c') cl)) (leaving (envX qual scope l f (.ref c') cl) e) (fun _ s'' => R (.error e) s'') (fun e' s'' => R (.error e') s'') s')
        { s with heap := h₁, toks := s.toks + 0 })
    (hco : scope.isCoroutine = false) (hgen : scope.isGenerator = false) (hk : scope.kind = .function) (hcell : ∀ x ∈ scope.names, x.2 ≠ .cell) : codeAny (model prg w) A (.call (.ref f) ⟨[], []⟩) R s := by
  obtain ⟨FG, BG, st, lv⟩ := groundX (R := R) B F N hA hf hke
  obtain ⟨oL, es, ep, hL, hLd, hLk, hLf⟩ := id FG.ns
  refine kla_callFunE hroom (N _ ho).1 rfl hco hgen rfl hcd ?_
  have hbind : bindArgs (kla_fn "<lambda>" qual noPars body scope cl pm (.ref c') ctv) ⟨[], []⟩ = pure [] := rfl
  rw [hbind]
  refine wpAny_pure (wpAny_newFunctionEnv hcell (fun y hy => nomatch hy) (fun h₁ hns hsb => ⟨(hlim.keeps F.keep).fresh _ hsb, ?_⟩) hk)
  show codeAny _ _ (.expr body (envX qual scope s.heap.objs.size f (.ref c') cl)) _ _
  have hk₁ : ∀ b o, s.heap.get? b = some o → h₁.get? b = some o := fun b o e => hsb.extBut b o (Nat.ne_of_lt (Heap.lt_size e)) (Heap.get?_push_of_some _ e)
  refine kla_codeExpr (h _ s.heap.objs.size h₁ FG ⟨hns, fun b o e => hk₁ b o (of_hideAll _ e), Nat.le_of_eq (hideAll_size _ _)⟩ (fun p hp => ⟨hk₁ _ _ (N p hp).1, Nat.ne_of_lt (Heap.lt_size (N p hp).1), hideAll_none _ (List.mem_map_of_mem hp)⟩) BG (fun b hb => ?_) (fun q hq => Heap.lt_size (N q hq).1))
  rcases mem_frames hf hb with rfl | hb
  · exact ⟨oL, es, ep, hL, hLd⟩
  · obtain ⟨o, es', n', ho', hd'⟩ := D b hb
    exact ⟨o, es', n', FG.keep b o ho', hd'⟩
noncomputable def lamOk (scope : Scope) (q : Str) (objs : List SO) (c : Nat) : Option Unit := ob objs[c]? fun o => oCode o fun q' => gd (decide (q' = q) && (scope.names.all (fun y => y.2 != .cell) && (!scope.isCoroutine && (!scope.isGenerator && (scope.kind == .function))))) (some ())
theorem lamC_ok (XB : (hd.heap_1 w.params).In base) (TB : Top p loose mean mg mb base) (G : Good ih) {i lvl c : Nat} {q : Str} {body : PySem.Expr} {scope : Scope} {cl : List (Str × Nat)} {l : List (RR × St)} {f : Value} {u : Unit} (hx : st.objs[i]? = some (.fn q body scope cl c)) (hok : lamOk scope q st.objs c = some u)
    (hl : ih (.E ⟨scope, cl, none, lvl, false, .none, q⟩ body) ⟨[], st.objs, st.bnd, false, st.frz, st.sums⟩ = some l) (hb : bndL (backE st) (excBack st l) = some outs)
    (W : WF Γ (lvl + 1)) (hf : VR ρ σ (.own i) f) (F : FS Γ st ρ σ s.heap) (P : Post relE Γ ρ σ s outs Q X) : codeAny (model prg w) Γ.A (.call f ⟨[], []⟩) (fun r s' => match r with | .ok (.ret v) => Q v s' | .ok _ => False | .error e => X e s') s := by
  obtain ⟨g, m, os, FX⟩ := F
  obtain ⟨fa, hfa, rfl⟩ := hf
  obtain ⟨_, _, ⟨clos, pm, c', ctv, hc', hclR, rfl⟩, hm⟩ := FX.at hfa hx
  refine i_ob (fun o h1 ho => i_oCode (fun q' h2 e => i_gd (fun _ h3 => ?_) h2) h1) hok
  cases e
  obtain ⟨k1, h4⟩ := Bool.and_eq_true_iff.mp h3
  obtain ⟨k2, h5⟩ := Bool.and_eq_true_iff.mp h4
  obtain ⟨k3, h6⟩ := Bool.and_eq_true_iff.mp h5
  obtain ⟨k4, k5⟩ := Bool.and_eq_true_iff.mp h6
  have k5 := beq_iff_eq.mp k5
  cases of_decide_eq_true k1
  obtain ⟨oc, _, ⟨vs, t, hvs, hv1⟩, hmc⟩ := FX.at hc' ho
  have sp := bndL_spec hb
  refine code_L FX.B FX.F FX.N (FX.Tp TB).nolimit FX.D W.frames rfl W.kind hm ⟨c', oc, vs, t, rfl, (FX.N _ hmc).1, hvs, hv1⟩ W.dep (fun G' l' h₁ FG F' N' B' D' lo => ?_) (bnot k3) (bnot k4) k5 fun x hx e => by
    have := List.all_eq_true.mp k2 x hx
    rw [e] at this
    cases this
  refine G.E _ _ _ _ hl (Γ.callee _ _ l' fa _ clos G' false) ρ σ _ (sat s h₁ (s.toks + 0)) _ _ (W.down k5) (.fn rfl rfl hclR (.inl rfl) rfl) ⟨_, _, _, ⟨.refl, fun _ => rfl, B', D', F', N', FX.O, FX.len, (fun x v e => nomatch e), FX.asc, FX.ap, FX.bd, FX.sm, (fun m₀ e => nomatch e), FX.Z⟩⟩ fun o hol ρ1 σ1 h2 tk2 hr hs => ?_
  obtain ⟨o1, st2⟩ := o
  refine ⟨fun y hy FF => ?_, fun C e hC XX => XS.home FX FG hr hs k5 XX fun h' XX => ?_⟩
  · have FB := FX.home FG hr hs FF
    cases o1 <;> try exact absurd hy (fun z => z)
    obtain ⟨l2, e2, mm⟩ := (sp _ (excBack_mem hol)).2 rfl
    cases e2
    exact (P _ (mm _ (.head _)) ρ1 σ1 h2 tk2 hr hs).1 y hy FB
  · cases hC
    exact (P _ ((sp _ (excBack_mem hol)).1 rfl) ρ1 σ1 h' tk2 hr hs).2 C e rfl XX
end

end
-- W20
section
section
variable {Γ : FC} {st : St} {ρ : List Addr} {σ : List Int} {s : Shared} {X : Value → Shared → Prop} {outs : List (RR × St)} {ih : Run} {sc : SC} {Q : Value → Shared → Prop} {args : List SV} {xs : List Value}
@[reducible] noncomputable def FC.under (Γ : FC) (A : Around) : FC := ⟨Γ.cn, Γ.cs, Γ.L, Γ.a, Γ.ccd, Γ.cl, Γ.outer, Γ.A₀, A, Γ.g₀, Γ.extra, Γ.pin, Γ.fz, Γ.own⟩
theorem FS.withA {Γ : FC} {h : Heap} {A : Around} (F : FS Γ st ρ σ h) : FS (Γ.under A) st ρ σ h := let ⟨g, m, os, F⟩ := F; ⟨g, m, os, F.T, F.T0, F.B, F.D, F.F, F.N, F.O, F.len, F.M, F.asc, F.ap, F.bd, F.sm, F.Mp, F.Z⟩
theorem FS.offA {Γ : FC} {h : Heap} {A : Around} (F : FS (Γ.under A) st ρ σ h) : FS Γ st ρ σ h := F.withA (A := Γ.A)
theorem XS.offA {Γ : FC} {h : Heap} {C e : Addr} {A : Around} (x : XS (Γ.under A) st C e ρ σ h) : XS Γ st C e ρ σ h := by
  rcases x with x | x
  · obtain ⟨g, m', os, g₁, t, vs, T, T0, B, D, F, R, U, O, len, M, asc, ap, bd, sm, Z⟩ := x
    exact .inl ⟨g, m', os, g₁, t, vs, T, T0, B, D, F, R, U, O, len, M, asc, ap, bd, sm, Z⟩
  · obtain ⟨hown, g, m', os, t, vs, od, F, N, off⟩ := x
    exact .inr ⟨hown, g, m', os, t, vs, od, ⟨F.T, F.T0, F.B, F.D, F.F, F.N, F.O, F.len, F.M, F.asc, F.ap, F.bd, F.sm, F.Mp, F.Z⟩, N, off⟩
section
variable (P : Params)
noncomputable def iniBack (n : Nat) (v : SV) (st : St) : Outs := onNone v (okv (.own n) st)
/-- an object's __init__, run above the object and its part -/
noncomputable def cIni (ih : Run) (lvl : Nat) (f : Addr) (args : List SV) (n : Nat) (st : St) : Outs := ob (enter P lvl f (.own n :: args) st) fun q => ob (ih (.Ss q.1 q.2.1) q.2.2) fun l => bnd (bndL (back st) (excBack st l)) (rVal (iniBack n))
noncomputable def cCls (ih : Run) (lvl : Nat) (a : Addr) (args : List SV) (st : St) : Outs := Nat.rec none (fun lvl _ => ob (findIn (hd.heap_1 P) (.ref a) "__init__") fun o => ob o fun v => vRef v fun f => gd (isFn (hd.heap_1 P) (.ref f)) (orE (gd (makesIn (hd.heap_1 P) a) (cIni P ih lvl f args (st.objs.length + 1) ((st.addO (.dict [])).addO (.inst a st.objs.length))))
  (gd (excMk (hd.heap_1 P) a && Nat.ble args.length 20) (cIni P ih lvl f args (st.objs.length + 1) ((st.addO (.tup args)).addO (.exc a st.objs.length false)))))) lvl
noncomputable def cFun (ih : Run) (lvl : Nat) (a : Addr) (args : List SV) (st : St) : Outs := ob (enter P lvl a args st) fun q => ob (ih (.Ss q.1 q.2.1) q.2.2) fun l => bndL (back st) (excBack st l)
noncomputable def cOwn (ih : Run) (lvl i : Nat) (args : List SV) (st : St) : Outs := ob st.objs[i]? fun o => oFn o fun q body scope cl c => l0 args (Nat.rec none (fun lvl _ => ob (lamOk scope q st.objs c) fun _ => ob (ih (.E ⟨scope, cl, none, lvl, false, .none, q⟩ body) ⟨[], st.objs, st.bnd, false, st.frz, st.sums⟩) fun l => bndL (backE st) (excBack st l)) lvl)
end
@[reducible] noncomputable def Hook := Nat → Addr → List SV → St → Outs
/-- what the hooks say of a call holds -/
noncomputable def HookOk (H : Hook) : Prop := ∀ lvl a args st outs, H lvl a args st = some outs → CG lvl a args st outs
noncomputable def cF (P : Params) (H : Hook) (ih : Run) (lvl : Nat) (f : SV) (args : List SV) (st : St) : Outs := orE (onOwn f fun i => cOwn ih lvl i args st) (onImm f fun v => orE (vBlt v fun id => callB P id args st) (orE (vType v fun id => callT id args st) (vRef v fun a => orE (H lvl a args st) (orE (cFun P ih lvl a args st) (cCls P ih lvl a args st)))))
theorem ini_ok (XB : (hd.heap_1 w.params).In base) (TB : Top p loose mean mg mb base) (G : Good ih) {lvl n : Nat} {f x : Addr} {A : Around} {h' : Heap} {R : Result → Shared → Prop} (h : cIni w.params ih lvl f args n st = some outs) (W : WF (Γ.under A) lvl) (hx : ρ[n]? = some x) (ha : F2 (VR ρ σ) args xs) (F : FS Γ st ρ σ h') (P : Post relE Γ ρ σ s outs Q X) (hR : R = fun r s' => match r with | .ok (.ret v) => Q v s' | .ok _ => False | .error e => X e s') :
    codeAny (model prg w) A (.call (.ref f) ⟨.ref x :: xs, []⟩) (InitBack x R) (sat s h' s.toks) := by
  refine i_ob (fun q h he => i_ob (fun l h hl => ?_) h) h
  obtain ⟨l1, hl1, P'⟩ := post_bind (rel1 := relE) h P relE_exc
  have e : (fun (r : Result) (s' : Shared) => match r with | .ok (.ret v) => v = .none ∧ Q (.ref x) s' | .ok _ => False | .error e => X e s') = InitBack x R := by
    rw [hR]
    funext r s'
    cases r with
    | error e => rfl
    | ok f => cases f <;> rfl
  rw [← e]
  refine def_okC (Γ := Γ.under A) (ρ := ρ) (s := sat s h' s.toks) (Q := fun v s' => v = .none ∧ Q (.ref x) s') (X := X) XB TB he (G.Ss _ _ _ _ hl) hl1 W (F2.cons ⟨x, hx, rfl⟩ ha) F.withA fun o ho ρ1 σ1 h1 tk1 hr hs => ⟨fun a ra FF => ?_, fun C' e hC XX => (P' o ho ρ1 σ1 h1 tk1 hr hs).2 C' e hC XX.offA⟩
  obtain ⟨v, st1, ρ2, σ2, h2, tk2, l2, es, hr2, hs2, hf2, rv, FF2, P2⟩ := nxtV ((P' o ho ρ1 σ1 h1 tk1 hr hs).1 a ra FF.offA)
  rw [es]
  refine rv.onNone hf2 fun hf2 => ⟨rfl, ?_⟩
  exact post_v (s := sat s h2 tk2) hf2 P2 FF2 (x := .ref x) ⟨x, pre_get hr2 hx, rfl⟩ tk2
theorem FSx.two {h' g : Heap} {m : Str → Option Value} {os : List Obj} {s1 s2 : SO} {o1 o2 : Obj} {d x : Addr} (FX : FSx Γ st ρ σ s.heap g m os) (F' : Fr g Γ.L h' m) (N' : News g Γ.L h' ((x, o2) :: (d, o1) :: (ρ.zip os ++ Γ.extra))) (lo : ∀ q ∈ ρ.zip os ++ Γ.extra, q.1 < d) (lt : d < x) (h1 : OR (ρ ++ [d]) σ s1 o1) (h2 : OR (ρ ++ [d] ++ [x]) σ s2 o2) :
    FS Γ ((st.addO s1).addO s2) (ρ ++ [d] ++ [x]) σ h' :=
  ⟨_, _, _, ((FX.moved F' fun q hq => N' q (.tail _ (.tail _ hq))).fresh' ⟨lo, fun q hq => N' q (.tail _ (by rw [List.mem_singleton.mp hq]; exact .head _))⟩ h1).fresh' ⟨lt_snoc FX.len lo lt, fun q hq => N' q (by rw [List.mem_singleton.mp hq]; exact .head _)⟩ h2⟩
theorem snoc_at {ρ : List Addr} {x : Addr} {n : Nat} (h : ρ.length = n) : (ρ ++ [x])[n]? = some x := by rw [← h, List.getElem?_concat_length]
theorem WF.call {lvl : Nat} (W : WF Γ (lvl + 1)) {A : Around} (h : A.frames = Γ.A.frames) (hh : A.handled = Γ.A.handled) (hd : A.depth = Γ.A.depth + 1) (hu : A.units = Γ.A.units + 1) : WF (Γ.under A) lvl :=
  { frames := h.trans W.frames, hand := hh.trans W.hand, kind := W.kind, room := by have := W.room; show A.depth + 4 * lvl + 8 < _; omega, units := by have := W.units; show A.units + 30 * lvl + 200 < _; omega }
theorem cls_ok (XB : (hd.heap_1 w.params).In base) (TB : Top p loose mean mg mb base) (G : Good ih) {lvl : Nat} {C : Addr} (h : cCls w.params ih lvl C args st = some outs) (W : WF Γ lvl) (ha : F2 (VR ρ σ) args xs) (F : FS Γ st ρ σ s.heap) (P : Post relE Γ ρ σ s outs Q X) : wpAny (model prg w) Γ.A (call (.ref C) xs) Q X s := by
  obtain ⟨g, m, os, FX⟩ := F
  cases lvl with
  | zero => exact dead h
  | succ lvl =>
    have hn : ρ.length = st.objs.length := FX.len.trans FX.O.length.symm
    refine i_ob (fun o h hi => i_ob (fun v h e1 => i_vRef (fun f h e2 => i_gd (fun h9 hf => ?_) h) h) h) h
    subst e1 e2
    refine i_or (fun h => i_gd (fun h hm => ?_) h) (fun h => i_gd (fun h hm => ?_) h) h9
    · refine call_cls FX.F (FX.In XB) FX.N hm hi hf fun x d h' F' N' lo lt => ?_
      have hpre : ρ <+: ρ ++ [d] ++ [x] := (List.prefix_append _ _).trans (List.prefix_append _ _)
      exact ini_ok XB TB G h (W.call rfl rfl rfl rfl) (snoc_at (by rw [List.length_append, hn]; rfl)) (VRs.mono hpre (List.prefix_refl _) ha) (FX.two F' N' lo lt ⟨[], 0, rfl, .nil⟩ ⟨d, pre_get (List.prefix_append _ _) (snoc_at hn), rfl⟩) (fun o ho ρ1 σ1 h1 tk1 hr hs => P o ho ρ1 σ1 h1 tk1 (hpre.trans hr) hs) rfl
    · obtain ⟨hm, hz⟩ := Bool.and_eq_true_iff.mp hm
      refine call_exc FX.F (FX.In XB) FX.N hm hi hf (by rw [← ha.length, sizeLine_eq]; exact Nat.le_trans (Nat.le_of_ble_eq_true hz) (by decide)) fun x d h' F' N' lo lt => ?_
      have hpre : ρ <+: ρ ++ [d] ++ [x] := (List.prefix_append _ _).trans (List.prefix_append _ _)
      exact ini_ok XB TB G h (W.call rfl rfl rfl rfl) (snoc_at (by rw [List.length_append, hn]; rfl)) (VRs.mono hpre (List.prefix_refl _) ha) (FX.two F' N' lo lt ⟨xs, rfl, VRs.mono (List.prefix_append _ _) (List.prefix_refl _) ha⟩ ⟨d, none, pre_get (List.prefix_append _ _) (snoc_at hn), rfl, fun _ => rfl⟩) (fun o ho ρ1 σ1 h1 tk1 hr hs => P o ho ρ1 σ1 h1 tk1 (hpre.trans hr) hs) rfl
theorem C_ok (XB : (hd.heap_1 w.params).In base) (TB : Top p loose mean mg mb base) (G : Good ih) {H : Hook} (HK : HookOk H) {lvl : Nat} {f : SV} {x : Value} (h : cF w.params H ih lvl f args st = some outs) (W : WF Γ lvl) (hf : VR ρ σ f x) (ha : F2 (VR ρ σ) args xs) (F : FS Γ st ρ σ s.heap) (P : Post relE Γ ρ σ s outs Q X) :
    wpAny (model prg w) Γ.A (call x xs) Q X s := by
  refine i_or (fun h => i_onOwn (fun i h e => ?_) h) (fun h => hf.onImm h fun h _ => ?_) h
  · subst e
    refine i_ob (fun o h ho => i_oFn (fun q body scope cl c h e1 => i_l0 (fun h e2 => ?_) h) h) h
    subst e1 e2
    cases ha
    cases lvl with
    | zero => exact dead h
    | succ lvl => exact i_ob (fun _ h hok => i_ob (fun l h hl => wpAny_call (lamC_ok XB TB G ho hok hl h W hf F P)) h) h
  · refine i_or (fun h => i_vBlt (fun id h e => ?_) h) (fun h => i_or (fun h => i_vType (fun id h e => ?_) h) (fun h => i_vRef (fun a h e => ?_) h) h) h <;> subst e
    · exact callB_ok XB W.hand h ha F P
    · exact callT_ok W.hand h ha F P
    · refine i_or (fun h => HK _ _ _ _ _ h _ _ _ _ _ _ _ W ha F P) (fun h => i_or (fun h => i_ob (fun q h he => i_ob (fun l h hl => ?_) h) h) (fun h => cls_ok XB TB G h W ha F P) h) h
      exact wpAny_call (def_okC XB TB he (G.Ss _ _ _ _ hl) h W ha F P)
end

end
-- W21
section
noncomputable def ltV (n : Nat) (v : SV) : Bool := SV.rec true (fun _ => true) (fun _ => true) (fun _ => true) (fun _ => true) (fun i => Nat.ble (i + 1) n) (fun _ => true) v
noncomputable def ltO (n : Nat) (v : SO) : Bool := SO.rec (fun xs => xs.all (ltV n)) (fun xs => xs.all (ltV n)) (fun _ d => Nat.ble (d + 1) n) (fun es => es.all fun e => ltV n e.2) (fun c => Option.rec true (ltV n) c) (fun _ _ _ => true) (fun _ t _ => Nat.ble (t + 1) n) true (fun i es => Nat.ble (i + 1) n && es.all fun e => ltV n e.2) (fun _ => true)
  (fun i _ es => Nat.ble (i + 1) n && es.all fun e => Nat.ble (e.2.2 + 1) n) (fun _ => true) (fun _ _ _ cl c => Nat.ble (c + 1) n && cl.all fun e => Nat.ble (e.2 + 1) n) v
/-- the newer objects are left out -/
noncomputable def cutO (n : Nat) (st : St) : Option St := gd (st.loc.all (fun e => ltV n e.2) && (st.objs.take n).all (ltO n)) (some ⟨st.loc, st.objs.take n, st.bnd, st.turn, st.frz, st.sums⟩)
theorem F2.alls {α β : Type} {R S : α → β → Prop} {p : α → Bool} (k : ∀ a b, p a = true → R a b → S a b) {l : List α} {m : List β} (h : F2 R l m) : l.all p = true → F2 S l m := by
  induction h with
  | nil => exact fun _ => .nil
  | cons x _ ih => exact fun e => let ⟨e1, e2⟩ := Bool.and_eq_true_iff.mp e; .cons (k _ _ e1 x) (ih e2)
theorem zip_sub {p : Addr × Obj} {ρ : List Addr} {os : List Obj} {n : Nat} (h : p ∈ (ρ.take n).zip (os.take n)) : p ∈ ρ.zip os := by
  rw [List.zip_eq_zipWith, ← List.take_zipWith] at h
  rw [List.zip_eq_zipWith]
  exact List.mem_of_mem_take h
theorem not_take {a : Addr} {ρ : List Addr} {i n : Nat} (hn : ρ.Nodup) (h : ρ[i]? = some a) (hi : n ≤ i) (m : a ∈ ρ.take n) : False := by
  obtain ⟨hlt, e⟩ := List.getElem?_eq_some_iff.mp h
  rw [← List.take_append_drop n ρ] at hn
  refine (List.nodup_append.mp hn).2.2 a m a (List.mem_of_getElem? (i := i - n) ?_) rfl
  rw [List.getElem?_drop, Nat.add_sub_cancel' hi, h]
section
variable {ρ : List Addr} {σ : List Int} {n : Nat}
theorem get_cut {i : Nat} {a : Addr} (h : Nat.ble (i + 1) n = true) (e : ρ[i]? = some a) : (ρ.take n)[i]? = some a := by
  rw [List.getElem?_take_of_lt (Nat.le_of_ble_eq_true h)]; exact e
theorem VR.cut {v : SV} {x : Value} (h : ltV n v = true) (hv : VR ρ σ v x) : VR (ρ.take n) σ v x := by
  cases v with
  | own i => obtain ⟨a, e, rfl⟩ := hv; exact ⟨a, get_cut h e, rfl⟩
  | _ => exact hv
theorem TabR.cut {es : List (Nat × Nat × Nat)} : ∀ {l : List Value}, TabR ρ es l → es.all (fun e => Nat.ble (e.2.2 + 1) n) = true → TabR (ρ.take n) es l := by
  induction es with
  | nil => exact fun x _ => x
  | cons e r ih =>
    intro l x h
    obtain ⟨c, t, e, hc, r⟩ := x
    obtain ⟨h1, h2⟩ := Bool.and_eq_true_iff.mp h
    exact ⟨c, t, e, get_cut h1 hc, ih r h2⟩
theorem OR.cut {v : SO} {x : Obj} (h : ltO n v = true) (hv : OR ρ σ v x) : OR (ρ.take n) σ v x := by
  cases v with
  | tup xs => obtain ⟨vs, e, h'⟩ := hv; exact ⟨vs, e, h'.alls (fun _ _ a b => b.cut a) h⟩
  | list xs => obtain ⟨vs, k, e, h'⟩ := hv; exact ⟨vs, k, e, h'.alls (fun _ _ a b => b.cut a) h⟩
  | inst C d => obtain ⟨a, e, h'⟩ := hv; exact ⟨a, get_cut h e, h'⟩
  | dict es => obtain ⟨ds, k, e, h'⟩ := hv; exact ⟨ds, k, e, F2.alls (p := fun (e : Str × SV) => ltV n e.2) (fun _ _ a b => ⟨b.1, b.2.cut a⟩) h' h⟩
  | cell c => cases c with
    | none => exact hv
    | some c => obtain ⟨v', e, h'⟩ := hv; exact ⟨v', e, h'.cut h⟩
  | exc C t d => obtain ⟨a, od, e, h'⟩ := hv; exact ⟨a, od, get_cut h e, h'⟩
  | idict i es =>
    obtain ⟨⟨a, ha, hn⟩, kvs, hd, h'⟩ := hv
    obtain ⟨h1, h2⟩ := Bool.and_eq_true_iff.mp h
    exact ⟨⟨a, get_cut h1 ha, hn⟩, kvs, hd, F2.alls (p := fun (e : Int × SV) => ltV n e.2) (fun _ _ a b => ⟨b.1, b.2.cut a⟩) h' h2⟩
  | tab i a es =>
    obtain ⟨ha, ps, ho, h'⟩ := hv
    obtain ⟨h1, h2⟩ := Bool.and_eq_true_iff.mp h
    exact ⟨get_cut h1 ha, ps, ho, h'.cut h2⟩
  | fn q body scope cl c =>
    obtain ⟨clos, pm, c', ctv, hc, hcl, ho⟩ := hv
    obtain ⟨h1, h2⟩ := Bool.and_eq_true_iff.mp h
    refine ⟨clos, pm, c', ctv, get_cut h1 hc, fun x i e => ?_, ho⟩
    obtain ⟨a, h3, h4⟩ := hcl x i e
    exact ⟨a, get_cut (List.all_eq_true.mp h2 _ (mem_of_lookup e)) h3, h4⟩
  | _ => exact hv
end
section
variable {Γ : FC} {st : St} {ρ : List Addr} {σ : List Int} {h g : Heap} {m : Str → Option Value} {os : List Obj} {n : Nat}
theorem FSx.cut (F : FSx Γ st ρ σ h g m os) {st' : St} (e : cutO n st = some st') (hz : ∀ q ∈ Γ.fz, q.1 < n) : FSx Γ st' (ρ.take n) σ h g m (os.take n) := by
  refine i_gd (fun e hc => ?_) e
  obtain ⟨h1, h2⟩ := Bool.and_eq_true_iff.mp hc
  cases e
  exact {
    T := F.T
    T0 := F.T0
    B := F.B
    D := F.D
    F := F.F
    N := fun p hp => F.N p ((List.mem_append.mp hp).elim (fun hp => List.mem_append_left _ (zip_sub hp)) (List.mem_append_right _))
    O := (F.O.take n).alls (fun _ _ a b => b.cut a) h2
    len := by rw [List.length_take, List.length_take, F.len]
    M := fun x v ex => let ⟨v', a, b⟩ := F.M x v ex; ⟨v', a, b.cut (List.all_eq_true.mp h1 _ (mem_of_lookup ex))⟩
    asc := F.asc.sublist (List.take_sublist n ρ)
    ap := fun q hq hm => F.ap q hq (List.mem_of_mem_take hm)
    bd := F.bd
    sm := F.sm
    Mp := F.Mp
    Z := fun q hq => ⟨by rw [List.getElem?_take_of_lt (hz q hq)]; exact (F.Z q hq).1, (F.Z q hq).2⟩ }
end
noncomputable def sRaise (P : Params) (ih : Run) (sc : SC) (e : PySem.Expr) (st : St) : Outs := bnd (ih (.E sc e) st) (rVal fun v st1 => onOwn v fun i => ob st1.objs[i]? fun o => oExc o fun C t _ => gd (excMk (hd.heap_1 P) C && ((typeIn (hd.heap_1 P) (.ref C) == some (.type "type")) && (Nat.ble st.objs.length i && Nat.ble st.objs.length t)))
  (ob st1.objs[t]? fun o => oTup o fun _ => ob (cutO st.objs.length st1) fun st2 => some [(.exc C, st2)]))
theorem Raise_ok {Γ : FC} {st : St} {ρ : List Addr} {σ : List Int} {s : Shared} {X : Value → Shared → Prop} {outs : List (RR × St)} {ih : Run} {sc : SC} {Q : Flow → Shared → Prop} (XB : (hd.heap_1 w.params).In base) (G : Good ih) {e : PySem.Expr} {pos : Pos} (h : sRaise w.params ih sc e st = some outs) (W : WF Γ sc.lvl) (V : ScR Γ ρ sc) (F : FS Γ st ρ σ s.heap) (P : Post relS Γ ρ σ s outs Q X) :
    wpAny (model prg w) Γ.A (exec (.Raise (some e) none pos) Γ.env) Q X s := by
  obtain ⟨g0, m0, os0, FX0⟩ := id F
  have hn0 : ρ.length = st.objs.length := FX0.len.trans FX0.O.length.symm
  refine Raise_mine W.hand ?_
  refine i_ob (fun l h hl => ?_) h
  have sp := bndL_spec h
  refine G.E _ _ _ _ hl _ _ _ _ s _ _ W V.env F fun q hq ρ1 σ1 h1 tk1 hr hs => ⟨fun a ra F1 => ?_, fun C e hC XX => (P q ((sp q hq).1 (by rw [hC]; rfl)) ρ1 σ1 h1 tk1 hr hs).2 C e hC XX⟩
  obtain ⟨q1, st1⟩ := q
  cases q1 <;> try exact absurd ra (fun z => z)
  obtain ⟨l1, e, m1⟩ := (sp _ hq).2 rfl
  refine VR.onOwn ra e fun i ea e hea => ?_
  obtain ⟨g, m, os, FX⟩ := F1
  refine i_ob (fun so e hi => i_oExc (fun C t d e e1 => i_gd (fun e hc => i_ob (fun so2 e hys => i_oTup (fun ys e e2 => i_ob (fun st2 e9 hcut => ?_) e) e) e) e) e) e
  subst e1 e2
  cases e9
  obtain ⟨c1, hc⟩ := Bool.and_eq_true_iff.mp hc
  obtain ⟨c2, hc⟩ := Bool.and_eq_true_iff.mp hc
  obtain ⟨c3, c4⟩ := Bool.and_eq_true_iff.mp hc
  obtain ⟨o, ho, ⟨ta, od, hta, rfl, _⟩, hm⟩ := FX.at hea hi
  obtain ⟨o2, ho2, ⟨vs, rfl, _⟩, hm2⟩ := FX.at hta hys
  obtain ⟨post, N1, hne, _⟩ := FX.focus hea ho
  refine raisable_mine (s := sat s h1 tk1) FX.F (FX.In XB) N1 c1 (beq_iff_eq.mp c2) ?_
  have hpre : ρ1.take st.objs.length = ρ := by rw [← hn0]; exact (List.prefix_iff_eq_take.mp hr).symm
  have hfz : ∀ q ∈ Γ.fz, q.1 < st.objs.length := fun q hq => by
    rw [FX0.O.length]
    exact (List.getElem?_eq_some_iff.mp (FX0.Z q hq).1).1
  refine (P (.exc C, st2) (m1 _ (.head _)) (ρ1.take st.objs.length) σ1 h1 tk1 (by rw [hpre]; exact List.prefix_refl _) hs).2 C ea rfl (.inr ⟨V.own, g, m, os.take st.objs.length, ta, vs, od, FX.cut hcut hfz, fun q hq => ?_, fun q hq => ?_⟩)
  · rcases List.mem_cons.mp hq with rfl | hq
    · exact FX.N _ hm
    · rw [List.mem_singleton.mp hq]; exact FX.N _ hm2
  · rcases List.mem_append.mp hq with hq | hq
    · have hk := zip_key hq
      exact ⟨fun z => not_take FX.asc hea (Nat.le_of_ble_eq_true c3) (z ▸ hk), fun z => not_take FX.asc hta (Nat.le_of_ble_eq_true c4) (z ▸ hk)⟩
    · exact ⟨fun z => FX.ap q hq (z ▸ List.mem_of_getElem? hea), fun z => FX.ap q hq (z ▸ List.mem_of_getElem? hta)⟩

end
-- W22
section
noncomputable def constV (c : Const) : Option SV := match c with
  | .str x => some (.str x)
  | .bool b => some (.bool b)
  | _ => none
section
variable {β : Type} {q : β} {G : Prop}
noncomputable def ehV (h : ExceptHandler) (f : PySem.Expr → List Stmt → Option β) : Option β := match h with
  | .ExceptHandler (some t) none b _ => f t b
  | _ => none
theorem i_ehV {h : ExceptHandler} {f : PySem.Expr → List Stmt → Option β} (k : ∀ t b p, f t b = some q → h = .ExceptHandler (some t) none b p → G) (e : ehV h f = some q) : G := by
  obtain ⟨t, n, b, p⟩ := h
  cases t <;> cases n <;> first | exact k _ _ _ e rfl | exact dead e
set_option backward.match.sparseCases false in
noncomputable def eConst (e : PySem.Expr) (f : Const → Option β) : Option β := match e with
  | .Constant c _ _ => f c
  | _ => none
theorem i_eConst {e : PySem.Expr} {f : Const → Option β} (k : ∀ c u p, f c = some q → e = .Constant c u p → G) (h : eConst e f = some q) : G := by cases e <;> first | exact k _ _ _ h rfl | exact dead h
set_option backward.match.sparseCases false in
noncomputable def tRet (t : Stmt) (f : PySem.Expr → Option β) : Option β := match t with
  | .Return e _ => ob e f
  | _ => none
theorem i_tRet {t : Stmt} {f : PySem.Expr → Option β} (k : ∀ e p, f e = some q → t = .Return (some e) p → G) (h : tRet t f = some q) : G := by cases t <;> first | exact i_ob (fun e h z => k e _ h (by rw [z])) h | exact dead h
set_option backward.match.sparseCases false in
noncomputable def tExpr (t : Stmt) (f : PySem.Expr → Option β) : Option β := match t with
  | .Expr e _ => f e
  | _ => none
theorem i_tExpr {t : Stmt} {f : PySem.Expr → Option β} (k : ∀ e p, f e = some q → t = .Expr e p → G) (h : tExpr t f = some q) : G := by cases t <;> first | exact k _ _ h rfl | exact dead h
end
/-- what a handler that answers a constant makes of what its body did -/
noncomputable def caught (C : Nat) (v : SV) (k : SV → RR) (r : RR) (st : St) : Outs := RR.rec (fun u => ok1 (k u) st) (fun _ => none) (fun _ => none) none (fun _ => none) (fun D => gd (Nat.beq D C) (ok1 (.ret v) (st.re st.frz true))) r
noncomputable def tryOut (C : Nat) (v : SV) (k : SV → RR) (l : List (RR × St)) : Outs := List.rec (some []) (fun o _ ih => ob (caught C v k o.1 o.2) fun a => ob ih fun l => some (a ++ l)) l
theorem tryOut_spec {C : Nat} {v : SV} {k : SV → RR} {l : List (RR × St)} : ∀ {outs}, tryOut C v k l = some outs → ∀ o ∈ l, ∃ a, caught C v k o.1 o.2 = some a ∧ ∀ x ∈ a, x ∈ outs := by
  induction l with
  | nil => intro _ _ _ hm; cases hm
  | cons p r ih =>
    intro outs h o hm
    refine i_ob (fun a h ha => i_ob (fun l h hl => ?_) h) h
    cases h
    rcases List.mem_cons.mp hm with rfl | hm
    · exact ⟨a, ha, fun x hx => List.mem_append_left _ hx⟩
    · obtain ⟨b, h1, h2⟩ := ih hl o hm
      exact ⟨b, h1, fun x hx => List.mem_append_right _ (h2 x hx)⟩
/-- except Name: return constant -/
noncomputable def handlerOf {β : Type} (P : Params) (sc : SC) (hs : List ExceptHandler) (f : Nat → SV → Option β) : Option β := l1 hs fun h => ehV h fun t b => eName t fun x _ => l1 b fun s => tRet s fun e => eConst e fun c => ob (nsIn (hd.heap_1 P) mainGlobals x) fun o => ob o fun g => vRef g fun C => ob (constV c) fun v =>
  gd (ktsIn (hd.heap_1 P) C "BaseException" && ((sc.cs.names.lookup x == some .globalImplicit) && !(decide (x = Str.ofString "__debug__")))) (f C v)
noncomputable def tryS (P : Params) (ih : Run) (sc : SC) (b : List Stmt) (hs : List ExceptHandler) (o f : List Stmt) (st : St) : Outs := l0 o (l0 f (handlerOf P sc hs fun C v => l1 b fun s => orE (tRet s fun e => ob (ih (.E sc e) st) (tryOut C v .ret)) (tExpr s fun e => gd (notComp e) (ob (ih (.E sc e) st) (tryOut C v fun _ => .next)))))
section
variable {A₀ : Around} {base g G B h₅ : Heap} {outer : List Env} {L a : Addr} {m : Str → Option Value} {env : Env}
theorem kts_groundX (hf : env.frame = some L) (K : Below A₀ base outer g) (F : Fr g L G m) (hBG : ∀ b o, G.get? b = some o → b ∉ (env :: outer).filterMap (·.frame) → B.get? b = some o) (hBh : B.StaysIn h₅) (hsm : G.UpToSlots h₅) :
    ∃ g', KtsTurn (outer.filterMap (·.frame)) g g' ∧ Fr g' L h₅ m ∧ Below A₀ base outer g' := by
  obtain ⟨T, S⟩ := kts_turn_at (h := h₅) (fs := outer.filterMap (·.frame)) (g := g)
    (fun b hb => by
      obtain ⟨_, o, ho, _⟩ := K.frames.mem hb
      exact ⟨o, ho⟩)
    (fun b o e nm => hBh b o (hBG b o (F.keep b o e) (fun hm => by
      rcases mem_frames hf hm with z | z
      · rw [z, kts_self F] at e
        cases e
      · exact nm z)))
    (fun b o e hm => by
      obtain ⟨_, o', ho', hd⟩ := K.frames.mem hm
      rw [e] at ho'
      cases ho'
      exact hsm b o (F.keep b o e) hd)
  refine ⟨_, T, ⟨hsm.ns F.ns, S, by rw [T.size]; exact F.above⟩, ⟨K.stack, fun b o e => T.other b o (K.stays b o e) (fun hm => by
    rw [(K.frames.mem hm).1] at e
    cases e), K.frames.of_keeps fun b o e _ => ?_⟩⟩
  obtain ⟨sl, hs⟩ := T.up e
  exact ⟨_, hs, rfl⟩
theorem kts_freshX (hf : env.frame = some L) {b : Addr} (F : Fr g L G m) (hBG : ∀ b o, G.get? b = some o → b ∉ (env :: outer).filterMap (·.frame) → B.get? b = some o) (hb : B.get? b = none)
    (hnf : ∀ o, g.get? b = some o → b ∈ outer.filterMap (·.frame) → False) : g.get? b = none := by
  cases q : g.get? b with
  | none => rfl
  | some o =>
    by_cases hm : b ∈ outer.filterMap (·.frame)
    · exact (hnf o q hm).elim
    · have := hBG b o (F.keep b o q) (fun hm' => by
        rcases mem_frames hf hm' with z | z
        · rw [z, kts_self F] at q
          cases q
        · exact hm z)
      rw [hb] at this
      cases this
end
section
variable {prog : Program} {A A₀ : Around} {E : Value → Shared → Prop} {s' : Shared} {base g g₀ G : Heap} {outer : List Env} {L a e t C : Addr} {m : Str → Option Value} {env : Env}
  {vs : List Value} {n : Str} {b₀ : Stmt} {suite : List Stmt} {pos np : Pos} {rest : List ExceptHandler} {Q : Flow → Shared → Prop} {news : List (Addr × Obj)} {KF : Frag}
  {x y : Str} {X T' : String}
theorem caughtX (hA : A.frames = some (env :: outer)) (hf : env.frame = some L) (R : RaisedS base G (env :: outer) e (.ref C) t vs news s'.heap) (F : Fr g L G m) (K : Below A₀ base outer g) (hsm : G.UpToSlots s'.heap) (XB : KF.In base) (TB : Top p loose mean mg mb base)
    (D : KtsDicts (outer.filterMap (·.frame)) g) (T0 : KtsTurn (outer.filterMap (·.frame)) g₀ g)
    (q : ktsIn KF C "BaseException" = true)
    (k : ∀ h' g' news₂, KtsTurn (outer.filterMap (·.frame)) g₀ g' → Fr g' L h' m → News g' L h' news₂ → Got news₂ e t (.ref C) vs → News g' L h' news → Below A₀ base outer g' → KF.In g' → Top p loose mean mg mb g' → KtsDicts (outer.filterMap (·.frame)) g' →
      wpAny (model prog w) (A.mark (some (.ref e))) (execs (b₀ :: suite) env) Q (fun _ _ => False) { s' with heap := h' })
    (hname : ∀ {g : Heap} {s₁ : Shared} {A' : Around} {Q' : Value → Shared → Prop} {E' : Value → Shared → Prop}, Fr g L s₁.heap m → KF.In g → TopRead p loose mg mb g → Q' (.ref C) s₁ → wpAny (model prog w) A' (eval (.Name x np) env) Q' E' s₁) :
    wpAny (model prog w) A (noteFrame (.ref e) env)
      (fun _ s₂ => wpAny (model prog w) A (setFlight (.ref e) none) (fun _ s₃ =>
        wpAny (model prog w) A (handleBy (.ref e) env (.ExceptHandler (some (.Name x np)) none (b₀ :: suite) pos :: rest)) Q E s₃) E s₂) E s' := by
  obtain ⟨⟨B, hB, hBG, hl, hfl, hnew⟩, htup⟩ := R
  have hL : B.get? L = none := by
    obtain ⟨_, ⟨L', _, hf2, hn', _⟩, _⟩ := hfl.2.2.1
    obtain rfl : L = L' := Option.some.inj (hf.symm.trans hf2)
    exact hn'
  refine wpAny_looks_onW hA hf hfl fun h₄ hheld₄ hsm₄ => ?_
  refine wpAny_landsW hheld₄ fun h₅ hheld hsm₅' => ?_
  have hsm₅ := hsm₄.trans hsm₅'
  obtain ⟨g₅, T₅, F₅, K₅⟩ := kts_groundX hf K F hBG hheld.1 (hsm.trans hsm₅)
  have X₅ : KF.In g₅ := XB.keeps K₅.stays
  have P₅ : TopRead p loose mg mb g₅ := topRead_of (TB.keeps K₅.stays)
  obtain ⟨ob, hob, hobc⟩ := hheld.there
  obtain ⟨nm, q', N, bs, bm, hdct, sn, sub, ab, col, dd, k0, k1, k2, k3, k5, newId, hC, hbase, hbT⟩ := kts_cls X₅ q
  have hC₅ := F₅.keep _ _ hC
  refine wpAny_handleBy_cons (codeAny_handlers_test (hname F₅ X₅ P₅ ?_)) (by intro q; cases q)
  refine wpAny_excMatches_sub_self hC₅ hob hobc hbase (codeAny_handlers_suite ?_)
  refine lands_againW hheld fun h₆ hfl₆ hsm₆ => ?_
  obtain ⟨g₆, T₆, F₆, K₆⟩ := kts_groundX hf K F hBG hfl₆.1 ((hsm.trans hsm₅).trans hsm₆)
  obtain ⟨oe, ws, hoe, hoec, hoed, hoe0⟩ := hfl₆.first
  obtain ⟨ot, nt, hot, hotc, hotd⟩ := (htup.of_slots hsm₅).of_slots hsm₆
  have ne₆ : g₆.get? e = none := T₆.none_ _ (kts_freshX hf F hBG hfl₆.2.1 fun o ho m => by
    obtain ⟨_, o', ho', hd⟩ := K.frames.mem m
    rw [ho] at ho'
    cases ho'
    obtain ⟨sl, hs⟩ := ((hsm.trans hsm₅).trans hsm₆) _ _ (F.keep _ _ ho) hd
    rw [hoe] at hs
    cases hs
    exact hd _ hoed)
  have nt₆ : g₆.get? t = none := T₆.none_ _ (kts_freshX hf F hBG hnew fun o ho m => by
    obtain ⟨o', es, n', ho', hd⟩ := D _ m
    rw [ho] at ho'
    cases ho'
    obtain ⟨sl, hs⟩ := ((hsm.trans hsm₅).trans hsm₆) _ _ (F.keep _ _ ho) (fun vs q => by rw [hd] at q; cases q)
    rw [hot] at hs
    cases hs
    have z := hd.symm.trans hotd
    cases z)
  have N₆ := News.more F₆ (News.more F₆ News.nil hot (fun es n q => by rw [hotd] at q; cases q) nt₆) hoe (fun es n q => by rw [hoed] at q; cases q) ne₆
  have Nl : News g₆ L h₆ news := fun q hq => ⟨hfl₆.1 _ _ (hl q hq).1, (fun z => by have := (hl q hq).1; rw [z, hL] at this; cases this), T₆.none_ _ (kts_none F.keep (hl q hq).2.1)⟩
  have X₆ : KF.In g₆ := XB.keeps K₆.stays
  have P₆ : Top p loose mean mg mb g₆ := TB.keeps K₆.stays
  have D₆ : KtsDicts (outer.filterMap (·.frame)) g₆ := D.turn T₆
  exact wpAny_mono (k h₆ g₆ _ (T0.trans T₆) F₆ N₆ ⟨oe, ot, ws, nt, .head _, .tail _ (.head _), hoec, hoed, hoe0, hotc, hotd⟩ Nl K₆ X₆ P₆ D₆) (fun _ _ x => x) fun _ _ x => x.elim
end

@[reducible] noncomputable def FC.noOwn (Γ : FC) : FC := ⟨Γ.cn, Γ.cs, Γ.L, Γ.a, Γ.ccd, Γ.cl, Γ.outer, Γ.A₀, Γ.A, Γ.g₀, Γ.extra, Γ.pin, Γ.fz, false⟩
section
variable {Γ : FC} {st : St} {ρ : List Addr} {σ : List Int} {s : Shared} {X : Value → Shared → Prop} {outs : List (RR × St)} {ih : Run} {sc : SC} {Q : Flow → Shared → Prop}
theorem FS.noOwn {h : Heap} (F : FS Γ st ρ σ h) : FS Γ.noOwn st ρ σ h := let ⟨g, m, os, F⟩ := F; ⟨g, m, os, F.T, F.T0, F.B, F.D, F.F, F.N, F.O, F.len, F.M, F.asc, F.ap, F.bd, F.sm, F.Mp, F.Z⟩
theorem FS.reOwn {h : Heap} (F : FS Γ.noOwn st ρ σ h) : FS Γ st ρ σ h := let ⟨g, m, os, F⟩ := F; ⟨g, m, os, F.T, F.T0, F.B, F.D, F.F, F.N, F.O, F.len, F.M, F.asc, F.ap, F.bd, F.sm, F.Mp, F.Z⟩
theorem const_ok {A : Around} {c : Const} {v : SV} {k : Nat} {pos : Pos} {env : Env} {Q : Value → Shared → Prop} {X : Value → Shared → Prop} (e : constV c = some v) (kk : ∀ a tk, VR ρ σ v a → Q a (sat s s.heap tk)) : wpAny (model prg w) A (eval (.Constant c k pos) env) Q X s := by
  cases c <;> try exact dead e
  case str x => cases e; (with_reducible refine Calls.Constant_str ?_); exact kk _ _ ⟨_, rfl⟩
  case bool b => cases e; (with_reducible refine Constant_bool ?_); exact kk _ s.toks rfl
theorem Try_ok (XB : (hd.heap_1 w.params).In base) (TB : Top p loose mean mg mb base) (G : Good ih) {b o f : List Stmt} {hs : List ExceptHandler} {pos : Pos} (h : tryS w.params ih sc b hs o f st = some outs) (W : WF Γ sc.lvl) (V : ScR Γ ρ sc) (hp : Γ.pin = none) (F : FS Γ st ρ σ s.heap) (P : Post relS Γ ρ σ s outs Q X) :
    wpAny (model prg w) Γ.A (exec (.Try b hs o f pos) Γ.env) Q X s := by
  refine i_l0 (fun h z1 => i_l0 (fun h z2 => i_l1 (fun eh h z3 => i_ehV (fun t bd hpos h z4 => i_eName (fun x np h z5 => i_l1 (fun rs h z6 => i_tRet (fun ce rp h z7 => i_eConst (fun c k cp h z8 => i_ob (fun go h g1 => i_ob (fun gv h z9 => i_vRef (fun C h z10 => i_ob (fun v h g2 => i_gd (fun h9 hc => ?_) h) h) h) h) h) h) h) h) h) h) h) h) h
  subst z1 z2 z3 z4 z5 z6 z7 z8 z9 z10
  obtain ⟨g3, hc⟩ := Bool.and_eq_true_iff.mp hc
  obtain ⟨g4, g5⟩ := Bool.and_eq_true_iff.mp hc
  have key : ∀ (e : PySem.Expr) (kr : SV → RR) (l : List (RR × St)) (K : Value → Shared → Prop), ih (.E sc e) st = some l → tryOut C v kr l = some outs → (∀ ρ σ u a, VR ρ σ u a → ∃ fl, relS ρ σ (kr u) fl ∧ ∀ s', Q fl s' → K a s') → wpAny (model prg w) Γ.A (eval e Γ.env) K
      (fun e s₁ => wpAny (model prg w) Γ.A (noteFrame e Γ.env) (fun _ s₂ => wpAny (model prg w) Γ.A (setFlight e none) (fun _ s₃ => wpAny (model prg w) Γ.A (handleBy e Γ.env [.ExceptHandler (some (.Name x np)) none [.Return (some (.Constant c k cp)) rp] hpos]) Q X s₃) X s₂) X s₁) s := by
    intro e kr l K hl ht hK
    have sp := tryOut_spec ht
    refine G.E _ _ _ _ hl Γ.noOwn ρ σ Γ.env s _ _ ⟨W.frames, W.hand, W.kind, W.room, W.units⟩ (EnvR.fn (Γ := Γ.noOwn) V.cs V.cv V.cells V.code V.cn) F.noOwn fun q hq ρ1 σ1 h1 tk1 hr hs => ?_
    obtain ⟨q1, st1⟩ := q
    obtain ⟨la, h2, mm⟩ := sp _ hq
    refine ⟨fun a ra F1 => ?_, fun D e hD XX => ?_⟩
    · cases q1 <;> try exact absurd ra (fun z => z)
      cases h2
      obtain ⟨fl, k1, k2⟩ := hK _ _ _ _ ra
      exact k2 _ ((P _ (mm _ (.head _)) ρ1 σ1 h1 tk1 hr hs).1 _ k1 F1.reOwn)
    · cases hD
      refine i_gd (fun h2 hDC => ?_) h2
      cases Nat.eq_of_beq_eq_true hDC
      cases h2
      rcases XX with XX | XX
      · obtain ⟨g, m, os, gg, t, vs, T, T0, B, DD, Fq, R, U, O, len, M, asc, ap, bd, sm, Z⟩ := XX
        refine caughtX (KF := hd.heap_1 w.params) (s' := sat s h1 tk1) W.frames rfl R Fq B U XB TB DD T g3 (fun h' g' news₂ T1 F1 _ _ N1 B1 X1 P1 D1 => ?_) (fun {g2 s2 A' Q' E'} F2 X2 P2 q2 => ?_)
        · (with_reducible refine wpAny_execs_cons (wpAny_Return_some ?_))
          refine const_ok (ρ := ρ1) (σ := σ1) g2 fun a tk ha => ?_
          refine (P _ (mm _ (.head _)) ρ1 σ1 h' tk hr hs).1 (.ret a) ⟨a, rfl, ha⟩ ⟨g', m, os, ⟨T1, fun z => (by cases z), B1, D1, F1, N1, O, len, M, asc, ap, bd, sm, fun m₀ z => (by rw [hp] at z; cases z), Z⟩⟩
        · have hd5 : (x == ("__debug__" : Str)) = false := beq_eq_false_iff_ne.mpr (of_decide_eq_false (bnot g5))
          exact nameX_K F2 X2 P2 g1 q2 W.kind (by show Γ.cs.names.lookup x = _; rw [← V.cs]; exact beq_iff_eq.mp g4) hd5
      · cases XX.1
  refine i_l1 (fun t h z => i_or (fun h => i_tRet (fun e rp2 h z2 => i_ob (fun l h8 hl => ?_) h) h) (fun h => i_tExpr (fun e rp2 h z2 => i_gd (fun h hn => i_ob (fun l h8 hl => ?_) h) h) h) h) h9 <;> subst z z2
  · refine wpAny_Try_except (wpAny_execs_cons (wpAny_Return_some ?_))
    exact key e .ret l _ hl h8 fun ρ σ u a ha => ⟨_, ⟨a, rfl, ha⟩, fun s' q => q⟩
  · refine wpAny_Try_except (wpAny_execs_cons (wpAny_Expr_any ?_ ?_ (swaps_no hn)))
    · exact key e (fun _ => .next) l _ hl h8 fun ρ σ u a ha => ⟨_, rfl, fun s' q => wpAny_execs_nil (wpAny_execs_nil q)⟩
    · show (Γ.cs.kind == _ && _) = false
      rw [W.kind]; rfl
end

end
-- W23
section
section
variable (P : Params) (H : Hook) (ih : Run)
set_option backward.match.sparseCases false in
noncomputable def sF (sc : SC) (t : Stmt) (st : St) : Outs := match t with
  | .Return e _ => ob e fun e => sRet ih sc e st
  | .Expr e _ => sExpr ih sc e st
  | .If t a b _ => sIf ih sc t a b st
  | .Assign ts e _ => l1 ts fun t => sOne P ih sc t e st
  | .AugAssign t op e _ => eName t fun x _ => sAug ih sc x op e st
  | .For t iter body o _ => l0 o (eName t fun x px => sFor ih sc x px iter body st)
  | .While t body o _ => l0 o (gd sc.loop (ih (.Whl sc t body 40) st))
  | .Try b hs o f _ => tryS P ih sc b hs o f st
  | .Raise e c _ => ob e fun e => Option.rec (sRaise P ih sc e st) (fun _ => none) c
  | _ => none
noncomputable def step : Run := fun t st => Task.rec (fun sc e => evalE P ih sc (lcompE ih sc) e st) (fun sc es => esF ih sc es st) (fun sc e => tF P ih sc e st) (fun sc a ops rs => chF P ih sc a ops rs st) (fun sc t => sF P ih sc t st) (fun sc l => ssF ih sc l st) (fun lvl f args => cF P H ih lvl f args st)
  (fun sc t elt x items ys => compF ih sc t elt x items ys st) (fun sc t body items => loopF ih sc t body items st) (fun sc t body k => whlF ih sc t body k st) t
noncomputable def run (n : Nat) : Run := Nat.rec (fun _ _ => none) (fun _ ih => step P H ih) n
end
theorem S_ok {Γ : FC} {st : St} {ρ : List Addr} {σ : List Int} {s : Shared} {X : Value → Shared → Prop} {outs : List (RR × St)} {ih : Run} {sc : SC} {Q : Flow → Shared → Prop} (XB : (hd.heap_1 w.params).In base) (TB : Top p loose mean mg mb base) (G : Good ih) {t : Stmt} (h : sF w.params ih sc t st = some outs) (W : WF Γ sc.lvl) (V : ScR Γ ρ sc) (hX : sc.loop = true → PassesOwn (model prg w) Γ.A Γ.env X) (hp : Γ.pin = none) (F : FS Γ st ρ σ s.heap) (P : Post relS Γ ρ σ s outs Q X) :
    wpAny (model prg w) Γ.A (exec t Γ.env) Q X s := by
  cases t <;> try exact dead h
  case Return e pos => exact i_ob (fun e h9 z => by subst z; exact S_ret G h9 W V F P) h
  case Expr e pos => exact S_expr G h W V F P
  case If c a b pos => exact S_if G h W V hX hp F P
  case Assign ts e pos => exact i_l1 (fun t h9 z => by subst z; exact S_one G XB h9 W V hp F P) h
  case AugAssign t op e pos => exact i_eName (fun x px h9 z => by subst z; exact S_aug G h9 W V hp F P) h
  case For t iter body o pos => exact i_l0 (fun h z => i_eName (fun x px h9 z2 => by subst z z2; exact For_ok XB G h9 W V hX hp F P) h) h
  case While c body o pos => exact i_l0 (fun h z => i_gd (fun h9 hl => by subst z; exact whl_start 40 (G.Whl _ _ _ _ _ _ h9 _ _ _ _ _ _ W V hl (hX hl) hp F P)) h) h
  case Try b hs o f pos => exact Try_ok XB TB G h W V hp F P
  case Raise e c pos =>
    refine i_ob (fun e h9 z => ?_) h
    subst z
    cases c with
    | none => exact Raise_ok XB G h9 W V F P
    | some c => exact dead h9
/-- what the evaluator says holds -/
theorem run_good (XB : (hd.heap_1 w.params).In base) (TB : Top p loose mean mg mb base) {H : Hook} (HK : HookOk H) (n : Nat) : Good (run w.params H n) := by
  induction n with
  | zero => exact ⟨fun _ _ _ _ h => (nomatch h), fun _ _ _ _ h => (nomatch h), fun _ _ _ _ h => (nomatch h), fun _ _ _ _ _ _ h => (nomatch h), fun _ _ _ _ h => (nomatch h), fun _ _ _ _ h => (nomatch h), fun _ _ _ _ _ _ _ h => (nomatch h), fun _ _ _ _ _ _ h => (nomatch h), fun _ _ _ _ _ _ _ _ h => (nomatch h), fun _ _ _ _ _ h => (nomatch h)⟩
  | succ n G =>
    exact {
      E := fun _ _ _ _ h _ _ _ _ _ _ _ W V F P => E_ok XB TB G h W V F P
      Es := fun _ _ _ _ h _ _ _ _ _ _ _ _ W V F P => Es_ok G h W V F P
      T := fun _ _ _ _ h _ _ _ _ _ _ _ _ W V hw F P => T_ok XB G h W V hw F P
      Ch := fun _ _ _ _ _ _ h _ _ _ _ _ _ _ _ _ W V ha F P => Ch_ok XB G h W V ha F P
      S := fun _ t _ _ h _ _ _ _ _ _ W V hX hp F P => S_ok XB TB G h W V hX hp F P
      Ss := fun _ _ _ _ h _ _ _ _ _ _ W V hX hp F P => Ss_ok G h W V hX hp F P
      Loop := fun _ _ _ _ _ _ _ h _ _ _ _ _ _ W V hl hx hX hp _ _ _ _ _ _ Wk hTI hfp h1 h2 h3 h4 hT hn hP F P => Loop_ok G h W V hl (beq_iff_eq.mpr hx) hX hp Wk hTI hfp h1 h2 h3 h4 hT hn hP F P
      Whl := fun _ _ _ _ _ _ h _ _ _ _ _ _ W V hl hX hp F P => Whl_ok G h W V hl hX hp F P
      Comp := fun _ _ _ _ _ _ _ _ h hex _ _ _ _ _ hcs hk hcl hlp W _ hpin _ _ _ _ _ _ _ _ F ht hys hP hS hFin => Comp_ok G h hex hcs hk hcl hlp W hpin F ht hys hP hS hFin
      C := fun _ _ _ _ _ h _ _ _ _ _ _ _ _ W hf ha F P => C_ok XB TB G HK h W hf ha F P }

end
-- W24
section
theorem around_eq {A : Around} {l : List Env} (h1 : A.frames = some l) (h2 : A.handled = none) : A = ⟨none, A.depth, some l, A.guards, A.units⟩ := by
  obtain ⟨a, b, c, d, e⟩ := A; cases h1; cases h2; rfl
noncomputable def bB : LB := (some 0, some 255, none)
noncomputable def sumSt (l : List SI) (st : St) : St := ⟨st.loc, st.objs, st.bnd ++ [bB] ++ [bB] ++ [bB] ++ [bB], st.turn, st.frz, (l, st.bnd.length) :: st.sums⟩
noncomputable def ats (n : Nat) : List SI := [.at n, .at (n + 1), .at (n + 2), .at (n + 3)]
noncomputable def findSum (st : St) (l : List SI) (qs : List (List SI × Nat)) : Option Nat := List.rec none (fun q _ ih => orE (ob (eqDs st q.1 l) fun b => gd b (some q.2)) ih) qs
/-- what is known of the frame sum -/
noncomputable def hookA : Hook := fun _ a args st => gd (Nat.beq a 453) (l1 args fun v => onBytes v fun l => gd (Nat.ble l.length 5000) (orE (ob (findSum st l st.sums) fun j => okv (.bytes (ats j)) st) (okv (.bytes (ats st.bnd.length)) (sumSt l st))))
section
variable {Γ : FC} {st : St} {ρ : List Addr} {σ : List Int} {s : Shared} {Q : Value → Shared → Prop} {X : Value → Shared → Prop} {outs : List (RR × St)} {h g : Heap} {m : Str → Option Value} {os : List Obj}
theorem ats_ok {n : Nat} {a b c d : Int} (k : ∀ j f, [a, b, c, d][j]? = some f → σ[n + j]? = some f) : F2 (SIR σ) (ats n) [a, b, c, d] := .cons (k 0 a rfl) (.cons (k 1 b rfl) (.cons (k 2 c rfl) (.cons (k 3 d rfl) .nil)))
theorem fsum_ok (B : F2 BR st.bnd σ) {l : List SI} {ns : List Int} (hb : F2 (SIR σ) l ns) {j : Nat} {qs : List (List SI × Nat)} : (∀ q ∈ qs, SumR σ q) → findSum st l qs = some j → F2 (SIR σ) (ats j) (sumL ns) := by
  induction qs with
  | nil => exact fun _ e => dead e
  | cons q r ih =>
    refine fun hs e => i_or (fun e => i_ob (fun b e hd => i_gd (fun e hb' => ?_) e) e) (fun e => ih (fun q hq => hs q (.tail _ hq)) e) e
    cases e
    cases hb'
    obtain ⟨ns', fs, h1, h2, h3⟩ := hs q (.head _)
    cases of_decide_eq_true (eqDs_ok B h1 hb hd)
    cases h2
    exact ats_ok h3
theorem WF.top {lvl : Nat} (W : WF Γ lvl) : Γ.A = ktrTop Γ.A.depth Γ.A.units Γ.A.guards Γ.cn Γ.cs Γ.L Γ.a Γ.ccd Γ.cl Γ.outer := around_eq W.frames W.hand
theorem hookA_ok (XB : (hd.heap_1 w.params).In base) (TB : Top p loose mean mg mb base) : HookOk hookA := by
  intro lvl a args st outs h Γ ρ σ xs s Q X W ha F P
  refine i_gd (fun h hq => ?_) h
  cases Nat.eq_of_beq_eq_true hq
  refine ha.onL1 h fun v x h hv => hv.onBytes h fun l b t h hb => i_gd (fun h hz => ?_) h
  obtain ⟨g, m, os, FX⟩ := F
  rw [W.top, show prg = PySem.Challenge.rw_pq1168_01.row.toRowW.prog by unfold prg; rfl]
  refine sum_ok w b (KBw.bInts b) t FX.B FX.F (FX.In XB) FX.N (FX.Tp TB) W.kind (by have := W.room; omega) (by have := W.units; omega) rfl (by rw [← hb.length]; exact Nat.le_of_ble_eq_true hz) fun b' t' h' tk' hb' F' N' => ?_
  have FX' := FX.moved F' N'
  refine i_or (fun h => i_ob (fun j h hj => ?_) h) (fun h => ?_) h
  · exact post_v (s := sat s h' tk') h P ⟨g, m, os, FX'⟩ ⟨b', t', rfl, by rw [hb']; exact fsum_ok FX.bd hb FX.sm hj⟩ tk'
  · have hlt := bytes_lt b'
    rw [hb'] at hlt
    have br : ∀ f ∈ sumL (KBw.bInts b), BR bB f := fun f hm => ⟨⟨fun u e => by cases e; exact (hlt f hm).1, fun u e => by cases e; exact Int.le_of_lt_add_one (hlt f hm).2⟩, fun D e => nomatch e⟩
    obtain ⟨f0, f1, f2, f3, hf⟩ : ∃ f0 f1 f2 f3, sumL (KBw.bInts b) = [f0, f1, f2, f3] := ⟨_, _, _, _, rfl⟩
    have F4 := (((FX'.letter (br f0 (by rw [hf]; exact .head _))).letter (br f1 (by rw [hf]; exact .tail _ (.head _)))).letter (br f2 (by rw [hf]; exact .tail _ (.tail _ (.head _))))).letter (br f3 (by rw [hf]; exact .tail _ (.tail _ (.tail _ (.head _)))))
    have e4 : σ ++ [f0] ++ [f1] ++ [f2] ++ [f3] = σ ++ [f0, f1, f2, f3] := by rw [List.append_assoc, List.append_assoc, List.append_assoc]; rfl
    rw [e4] at F4
    have hpre : σ <+: σ ++ [f0, f1, f2, f3] := List.prefix_append _ _
    have hget : ∀ j f, [f0, f1, f2, f3][j]? = some f → (σ ++ [f0, f1, f2, f3])[st.bnd.length + j]? = some f := fun j f e => by
      rw [FX.blen, List.getElem?_append_right (Nat.le_add_right _ _), Nat.add_sub_cancel_left]; exact e
    cases h
    refine post_one P (ρ' := ρ) (List.prefix_refl _) hpre (h' := h') (tk' := tk') (a := .bytes b' t') ⟨b', t', rfl, ?_⟩ ⟨g, m, os, F4.T, F4.T0, F4.B, F4.D, F4.F, F4.N, F4.O, F4.len, F4.M, F4.asc, F4.ap, F4.bd, fun q hq => ?_, F4.Mp, F4.Z⟩
    · rw [hb', hf]; exact ats_ok hget
    · exact (List.mem_cons.mp hq).elim (fun e => by rw [e]; exact ⟨_, _, hb.mono fun _ _ y => y.mono hpre, hf, hget⟩) (F4.sm q)
end

end
-- W25
section
theorem F2.of_get {α β : Type} {R : α → β → Prop} : ∀ {l : List α} {m : List β}, l.length = m.length → (∀ (i : Nat) (a : α) (b : β), l[i]? = some a → m[i]? = some b → R a b) → F2 R l m
  | [], [], _, _ => .nil
  | [], _ :: _, h, _ => by cases h
  | _ :: _, [], h, _ => by cases h
  | a :: l, b :: m, h, k => .cons (k 0 a b rfl rfl) (F2.of_get (by simpa using h) fun i x y hx hy => k (i + 1) x y (by simpa using hx) (by simpa using hy))
/-- some objects are no longer known -/
noncomputable def clobGo (sel : List Nat) : Nat → List SO → List SO
  | _, [] => []
  | k, o :: r => (match sel.contains k with | true => SO.any | false => o) :: clobGo sel (k + 1) r
theorem clobGo_get {sel : List Nat} : ∀ {l : List SO} {k i : Nat}, (clobGo sel k l)[i]? = (l[i]?).map fun o => match sel.contains (k + i) with | true => SO.any | false => o
  | [], _, _ => by simp [clobGo]
  | o :: r, k, 0 => by simp [clobGo]
  | o :: r, k, i + 1 => by
    show (clobGo sel (k + 1) r)[i]? = _
    rw [clobGo_get, List.getElem?_cons_succ, show k + 1 + i = k + (i + 1) by omega]
theorem clobGo_len {sel : List Nat} : ∀ {l : List SO} {k : Nat}, (clobGo sel k l).length = l.length
  | [], _ => rfl
  | _ :: r, k => by show (clobGo sel (k + 1) r).length + 1 = _; rw [clobGo_len]; rfl
/-- some objects' contents, as they are now -/
noncomputable def newObjs (ρs : List Addr) (os' : List Obj) : List Addr → List Obj → List Obj
  | a :: ρ, o :: os => ((ρs.zip os').lookup a).getD o :: newObjs ρs os' ρ os
  | _, _ => []
theorem newObjs_get {ρs : List Addr} {os' : List Obj} : ∀ {ρ : List Addr} {os : List Obj} {i : Nat} {a : Addr} {o : Obj}, ρ[i]? = some a → os[i]? = some o → (newObjs ρs os' ρ os)[i]? = some (((ρs.zip os').lookup a).getD o)
  | [], _, _, _, _, h, _ => by simp at h
  | _ :: _, [], _, _, _, _, h => by simp at h
  | _ :: _, _ :: _, 0, _, _, h, h' => by simp at h h'; subst h h'; rfl
  | _ :: ρ, _ :: os, i + 1, a, o, h, h' => by
    rw [List.getElem?_cons_succ] at h h'
    show (newObjs ρs os' ρ os)[i]? = _
    exact newObjs_get h h'
theorem newObjs_len {ρs : List Addr} {os' : List Obj} : ∀ {ρ : List Addr} {os : List Obj}, ρ.length = os.length → (newObjs ρs os' ρ os).length = os.length
  | [], [], _ => rfl
  | _ :: ρ, _ :: os, h => by show (newObjs ρs os' ρ os).length + 1 = _; rw [newObjs_len (by simpa using h)]; rfl
  | [], _ :: _, h => by cases h
  | _ :: _, [], h => by cases h
theorem lookup_zip {ρs : List Addr} {os' : List Obj} {a : Addr} {o : Obj} (e : (ρs.zip os').lookup a = some o) : (a, o) ∈ ρs.zip os' := by
  generalize ρs.zip os' = l at e
  induction l with
  | nil => cases e
  | cons p r ih =>
    obtain ⟨b, c⟩ := p
    rw [List.lookup_cons] at e
    cases q : a == b with
    | true => rw [q] at e; cases e; rw [beq_iff_eq.mp q]; exact .head _
    | false => rw [q] at e; exact .tail _ (ih e)
theorem lookup_none {ρs : List Addr} {os' : List Obj} {a : Addr} (hl : ρs.length ≤ os'.length) (e : (ρs.zip os').lookup a = none) : a ∉ ρs := by
  induction ρs generalizing os' with
  | nil => simp
  | cons b r ih =>
    cases os' with
    | nil => simp at hl
    | cons c os' =>
      rw [List.zip_cons_cons, List.lookup_cons] at e
      cases q : a == b with
      | true => rw [q] at e; cases e
      | false =>
        rw [q] at e
        intro m
        rcases List.mem_cons.mp m with rfl | m
        · rw [beq_self_eq_true] at q; cases q
        · exact ih (by simpa using hl) e m
theorem lookup_nodup {ρs : List Addr} {os' : List Obj} {a : Addr} {o : Obj} {k : Nat} (hn : ρs.Nodup) (ha : ρs[k]? = some a) (ho : os'[k]? = some o) : (ρs.zip os').lookup a = some o := by
  induction ρs generalizing os' k with
  | nil => simp at ha
  | cons b r ih =>
    cases os' with
    | nil => simp at ho
    | cons c os' =>
      rw [List.zip_cons_cons, List.lookup_cons]
      cases k with
      | zero => simp at ha ho; subst ha ho; rw [beq_self_eq_true]
      | succ k =>
        rw [List.getElem?_cons_succ] at ha ho
        have hne : a ≠ b := fun e => (List.nodup_cons.mp hn).1 (e ▸ List.mem_of_getElem? ha)
        rw [beq_eq_false_iff_ne.mpr hne]
        exact ih (List.nodup_cons.mp hn).2 ha ho
/-- the addresses of some of our objects -/
noncomputable def selA (sel : List Nat) (ρ : List Addr) : List Addr := sel.map fun i => ρ.getD i 0
theorem mem_selA {sel : List Nat} {ρ : List Addr} (hn : ρ.Nodup) (hl : ∀ i ∈ sel, i < ρ.length) {i : Nat} {a : Addr} (ha : ρ[i]? = some a) : a ∈ selA sel ρ ↔ sel.contains i = true := by
  unfold selA
  rw [List.mem_map, List.contains_iff_mem]
  constructor
  · rintro ⟨j, hj, e⟩
    have hjl := hl j hj
    rw [List.getD_eq_getElem?_getD, List.getElem?_eq_getElem hjl, Option.getD_some] at e
    obtain ⟨hi, ea⟩ := List.getElem?_eq_some_iff.mp ha
    have : j = i := (List.getElem_inj hn).mp (e.trans ea.symm)
    exact this ▸ hj
  · intro hi
    exact ⟨i, hi, by rw [List.getD_eq_getElem?_getD, ha]; rfl⟩
section
variable {Γ : FC} {st : St} {ρ : List Addr} {σ : List Int} {h g : Heap} {m : Str → Option Value} {os : List Obj}
/-- a frame that sees some of the objects alone -/
noncomputable def FC.few (Γ : FC) (g : Heap) (ρ : List Addr) (os : List Obj) (ρs : List Addr) (pn : Option (Str → Option Value)) : FC := { Γ with g₀ := g, pin := pn, fz := [], extra := (ρ.zip os).filter (fun p => !(ρs.contains p.1)) ++ Γ.extra }
theorem FSx.narrow (F : FSx Γ st ρ σ h g m os) {sel : List Nat} {pn : Option (Str → Option Value)} (hpn : ∀ m₀, pn = some m₀ → m = m₀) (hl : ∀ i ∈ sel, i < ρ.length) (hnd : sel.Nodup) {oss : List Obj} (hos : oss = sel.map fun i => os.getD i default) {sts : St} {σs : List Int}
    (hO : F2 (OR (selA sel ρ) σs) sts.objs oss) (hb : F2 BR sts.bnd σs) (hM : ∀ x v, sts.loc.lookup x = some v → ∃ v', m x = some v' ∧ VR (selA sel ρ) σs v v') (hsums : sts.sums = []) :
    FSx (Γ.few g ρ os (selA sel ρ) pn) sts (selA sel ρ) σs h g m oss where
  T := .refl
  T0 := fun _ => rfl
  B := F.B
  D := F.D
  F := F.F
  N := fun p hp => by
    rcases List.mem_append.mp hp with hp | hp
    · refine F.N p (List.mem_append_left _ ?_)
      subst hos
      unfold selA at hp
      rw [List.zip_map', List.mem_map] at hp
      obtain ⟨i, hi, rfl⟩ := hp
      have hlt := hl i hi
      have hlo : i < os.length := by rw [← F.len]; exact hlt
      refine zip_get (i := i) ?_ ?_
      · rw [List.getD_eq_getElem?_getD, List.getElem?_eq_getElem hlt]; rfl
      · rw [List.getD_eq_getElem?_getD, List.getElem?_eq_getElem hlo]; rfl
    · rcases List.mem_append.mp hp with hp | hp
      · exact F.N p (List.mem_append_left _ (List.mem_filter.mp hp).1)
      · exact F.N p (List.mem_append_right _ hp)
  O := hO
  len := by subst hos; unfold selA; rw [List.length_map, List.length_map]
  M := hM
  asc := by
    unfold selA
    rw [List.nodup_iff_pairwise_ne, List.pairwise_map]
    refine (List.nodup_iff_pairwise_ne.mp hnd).imp_of_mem fun {i j} hi hj hne e => hne ?_
    have h1 := hl i hi
    have h2 := hl j hj
    rw [List.getD_eq_getElem?_getD, List.getElem?_eq_getElem h1, List.getD_eq_getElem?_getD, List.getElem?_eq_getElem h2, Option.getD_some, Option.getD_some] at e
    exact (List.getElem_inj F.asc).mp e
  ap := fun q hq hm => by
    rcases List.mem_append.mp hq with hq | hq
    · have := (List.mem_filter.mp hq).2
      rw [Bool.not_eq_true'] at this
      rw [List.contains_iff_mem.mpr hm] at this
      cases this
    · refine F.ap q hq ?_
      unfold selA at hm
      obtain ⟨i, hi, e⟩ := List.mem_map.mp hm
      rw [← e, List.getD_eq_getElem?_getD, List.getElem?_eq_getElem (hl i hi)]
      exact List.getElem_mem _
  bd := hb
  sm := fun q hq => by rw [hsums] at hq; cases hq
  Mp := hpn
  Z := fun q hq => nomatch hq
/-- what a run among some of the objects has made -/
theorem FSx.absorb (F : FSx Γ st ρ σ h g m os) {sel : List Nat} {pn : Option (Str → Option Value)} (hl : ∀ i ∈ sel, i < ρ.length) (hz : ∀ q ∈ Γ.fz, q.1 ∉ sel) {st' : St} {ρ' : List Addr} {σ' : List Int} {h' g' : Heap} {m' : Str → Option Value} {os' : List Obj}
    (F' : FSx (Γ.few g ρ os (selA sel ρ) pn) st' ρ' σ' h' g' m' os') (hp : selA sel ρ <+: ρ') {loc' : List (Str × SV)} (hloc : ∀ x v, loc'.lookup x = some v → ∃ v', m' x = some v' ∧ VR ρ σ v v') (hpin : ∀ m₀, Γ.pin = some m₀ → m' = m₀) :
    FSx Γ { st with loc := loc', objs := clobGo sel 0 st.objs, turn := st.turn || st'.turn } ρ σ h' g' m' (newObjs (selA sel ρ) os' ρ os) := by
  have hle : (selA sel ρ).length ≤ os'.length := by rw [← F'.len]; obtain ⟨t, e⟩ := hp; rw [← e, List.length_append]; exact Nat.le_add_right _ _
  exact {
    T := F.T.trans F'.T
    T0 := fun e => by
      obtain ⟨e1, e2⟩ := Bool.or_eq_false_iff.mp e
      exact (F'.T0 e2).trans (F.T0 e1)
    B := F'.B
    D := F'.D
    F := F'.F
    N := fun p hp' => by
      rcases List.mem_append.mp hp' with hp' | hp'
      · obtain ⟨i, hi⟩ := List.mem_iff_getElem?.mp hp'
        have hi := List.getElem?_zip_eq_some.mp hi
        obtain ⟨o, ho⟩ : ∃ o, os[i]? = some o := by
          have : i < os.length := by rw [← F.len]; exact (List.getElem?_eq_some_iff.mp hi.1).1
          exact ⟨_, List.getElem?_eq_getElem this⟩
        have hn := newObjs_get (ρs := selA sel ρ) (os' := os') hi.1 ho
        rw [hi.2] at hn
        have hn := Option.some.inj hn
        cases hlk : ((selA sel ρ).zip os').lookup p.1 with
        | some o' =>
          rw [hlk] at hn
          have hm := lookup_zip hlk
          have : p = (p.1, o') := by rw [← (show p.2 = o' from hn)]
          rw [this]
          refine F'.N _ (List.mem_append_left _ ?_)
          obtain ⟨j, hj⟩ := List.mem_iff_getElem?.mp hm
          have hj := List.getElem?_zip_eq_some.mp hj
          exact zip_get (pre_get hp hj.1) hj.2
        | none =>
          rw [hlk] at hn
          have : p = (p.1, o) := by rw [← (show p.2 = o from hn)]
          rw [this]
          refine F'.N _ (List.mem_append_right _ (List.mem_append_left _ (List.mem_filter.mpr ⟨zip_get hi.1 ho, ?_⟩)))
          have := lookup_none hle hlk
          rw [Bool.not_eq_true']
          cases q : (selA sel ρ).contains p.1 with
          | false => rfl
          | true => exact absurd (List.contains_iff_mem.mp q) this
      · exact F'.N p (List.mem_append_right _ (List.mem_append_right _ hp'))
    O := F2.of_get (by rw [clobGo_len, newObjs_len F.len]; exact F.O.length) fun i so o hso ho => by
      rw [clobGo_get, Nat.zero_add] at hso
      obtain ⟨so', hso', e⟩ := Option.map_eq_some_iff.mp hso
      obtain ⟨a, ob, ha, hob, hor, _⟩ := F.obj hso'
      have hn := newObjs_get (ρs := selA sel ρ) (os' := os') ha hob
      rw [ho] at hn
      have hn := Option.some.inj hn
      cases hc : sel.contains i with
      | true => rw [hc] at e; subst e; trivial
      | false =>
        rw [hc] at e
        subst e
        have hnm : a ∉ selA sel ρ := fun hm => by rw [(mem_selA F.asc hl ha).mp hm] at hc; cases hc
        have : ((selA sel ρ).zip os').lookup a = none := by
          cases q : ((selA sel ρ).zip os').lookup a with
          | none => rfl
          | some o2 => exact absurd (zip_key (lookup_zip q)) hnm
        rw [this] at hn
        rw [hn]
        exact hor
    len := by rw [newObjs_len F.len]; exact F.len
    M := hloc
    asc := F.asc
    ap := F.ap
    bd := F.bd
    sm := F.sm
    Mp := hpin
    Z := fun q hq => by
      obtain ⟨h1, h2⟩ := F.Z q hq
      refine ⟨?_, h2⟩
      obtain ⟨a, ha⟩ : ∃ a, ρ[q.1]? = some a := by
        have : q.1 < ρ.length := by rw [F.len]; exact (List.getElem?_eq_some_iff.mp h1).1
        exact ⟨_, List.getElem?_eq_getElem this⟩
      have hnm : a ∉ selA sel ρ := fun hm => hz q hq (List.contains_iff_mem.mp ((mem_selA F.asc hl ha).mp hm))
      have : ((selA sel ρ).zip os').lookup a = none := by
        cases e : ((selA sel ρ).zip os').lookup a with
        | none => rfl
        | some o2 => exact absurd (zip_key (lookup_zip e)) hnm
      rw [newObjs_get ha h1, this]; rfl }
end

end
-- W26
section
abbrev srcL (x y : Int) (tx ty : Tok) (n : Nat) : Obj := { cls := .type "list", data := .seq #[.int x tx, .int y ty] n }
theorem wpAny_execs_append {M : Model} {A : Around} {E : Value → Shared → Prop} {s : Shared} {a b : List Stmt} {env : Env} {Q : Flow → Shared → Prop} (h : wpAny M A (execs a env) (fun f s' => match f with | .next => wpAny M A (execs b env) Q E s' | f => Q f s') E s) : wpAny M A (execs (a ++ b) env) Q E s := fun Γ p hΓ => by
  have key : ∀ (a : List Stmt) (p : Pos) (s : Shared), Sem.wp M Γ (execs a env) (fun f _ s' => match f with | .next => wpAny M A (execs b env) Q E s' | f => Q f s') (fun e _ s' => E e s') p s → Sem.wp M Γ (execs (a ++ b) env) (fun f _ s' => Q f s') (fun e _ s' => E e s') p s := by
    intro a
    induction a with
    | nil => intro p s h; exact h Γ p hΓ
    | cons t r ih =>
      intro p s h
      rw [execs_cons, Sem.wp_bind'] at h
      rw [List.cons_append, execs_cons, Sem.wp_bind']
      refine Sem.wp_mono M Γ _ (fun f p' s' h' => ?_) (fun _ _ _ h' => h') _ _ h
      cases f <;> first | exact ih _ _ h' | exact h'
  exact key a p s (h Γ p hΓ)
/-- the source: a list of two numbers, the first not below 0, the second within its bounds -/
noncomputable def srcG (st : St) (i : Nat) : Option Unit := ob st.objs[i]? fun o => oList o fun l => l2 l fun a b => onInt a fun a => onInt b fun b => ob (siB st a) fun p => ob (siB st b) fun q => ob p.1 fun la => ob q.1 fun lb => ob q.2 fun hb => gd (decide (0 ≤ la) && (decide (0 ≤ lb) && (decide (hb ≤ 2147483646) && !(st.frz.contains i)))) (some ())
noncomputable def bX : LB := (some 0, none, none)
noncomputable def bY : LB := (some 0, some 2147483646, none)
noncomputable def srcV (n : Nat) : SO := .list [.int (.at n), .int (.at (n + 1))]
noncomputable def drawn (st : St) (i : Nat) (loc : List (Str × SV)) : St := ⟨loc, st.objs.set i (srcV st.bnd.length), st.bnd ++ [bX] ++ [bY], true, st.frz, st.sums⟩
noncomputable def stU : St := ⟨[(Str.ofString "source", .own 0)], [srcV 0], [bX, bY], false, [], []⟩
noncomputable def stS : St := ⟨[], [srcV 0], [bX, bY], false, [], []⟩
theorem bX_ok {x : Int} (x0 : 0 ≤ x) : BR bX x := ⟨⟨fun l e => by cases e; exact x0, fun u e => nomatch e⟩, fun D e => nomatch e⟩
theorem bY_ok {y : Int} (y0 : 0 ≤ y) (y1 : y ≤ 2147483646) : BR bY y := ⟨⟨fun l e => by cases e; exact y0, fun u e => by cases e; exact y1⟩, fun D e => nomatch e⟩
inductive SrcR (Γ : FC) (i : Nat) (os : List Obj) : Prop
  | mk (x y : Int) (tx ty : Tok) (n : Nat) (ho : os[i]? = some (srcL x y tx ty n)) (x0 : 0 ≤ x) (y0 : 0 ≤ y) (y1 : y ≤ 2147483646) (hz : ∀ q ∈ Γ.fz, q.1 ≠ i)
theorem srcV_ok {ρ : List Addr} {σ : List Int} {n k : Nat} {x y : Int} {tx ty : Tok} (h1 : σ[k]? = some x) (h2 : σ[k + 1]? = some y) : OR ρ σ (srcV k) (srcL x y tx ty n) := ⟨[.int x tx, .int y ty], n, rfl, .cons ⟨x, tx, rfl, h1⟩ (.cons ⟨y, ty, rfl, h2⟩ .nil)⟩
section
variable {Γ : FC} {st : St} {ρ : List Addr} {σ : List Int} {h g : Heap} {m : Str → Option Value} {os : List Obj} {sc : SC} {outs : List (RR × St)} {i : Nat} {u : Unit}
theorem FSx.src (F : FSx Γ st ρ σ h g m os) (e : srcG st i = some u) {ad : Addr} (ha : ρ[i]? = some ad) : SrcR Γ i os := by
  refine i_ob (fun o e hi => i_oList (fun l e z => i_l2 (fun a b e z2 => i_onInt (fun a e z3 => i_onInt (fun b e z4 => i_ob (fun p e ea => i_ob (fun q e eb => i_ob (fun la e h1 => i_ob (fun lb e h2 => i_ob (fun hb e h3 => i_gd (fun _ hc => ?_) e) e) e) e) e) e) e) e) e) e) e
  subst z z2 z3 z4
  obtain ⟨c1, hc⟩ := Bool.and_eq_true_iff.mp hc
  obtain ⟨c2, hc⟩ := Bool.and_eq_true_iff.mp hc
  obtain ⟨c3, c4⟩ := Bool.and_eq_true_iff.mp hc
  obtain ⟨o, ho, ⟨vs, n, rfl, hvs⟩, hm⟩ := F.at ha hi
  obtain _ | ⟨⟨x, tx, rfl, hx⟩, _ | ⟨⟨y, ty, rfl, hy⟩, _ | _⟩⟩ := hvs
  obtain ⟨b1, _⟩ := siB_ok F.bd ea hx
  obtain ⟨b2, b3⟩ := siB_ok F.bd eb hy
  exact ⟨x, y, tx, ty, n, ho, Int.le_trans (of_decide_eq_true c1) (b1 _ h1), Int.le_trans (of_decide_eq_true c2) (b2 _ h2), Int.le_trans (b3 _ h3) (of_decide_eq_true c3), F.free ho (fun z => absurd (Value.type.inj z.1) (by decide)) (bnot c4)⟩
theorem SsG.cut {a b : List Stmt} {l1 : List (RR × St)} (h1 : SsG sc a st l1) (hn : ∀ o ∈ l1, o.1 = .next) (h2 : ∀ o ∈ l1, ∃ l2, SsG sc b o.2 l2 ∧ ∀ q ∈ l2, q ∈ outs) : SsG sc (a ++ b) st outs := by
  intro Γ ρ σ s Q X W V hX hp F P
  refine wpAny_execs_append (h1 Γ ρ σ s _ X W V hX hp F fun o ho ρ1 σ1 h1' tk1 hr hs => ⟨fun f hf FF => ?_, fun C e hC _ => ?_⟩)
  · have hno := hn o ho
    rw [hno] at hf
    cases (show f = .next from hf)
    obtain ⟨l2, hS, hsub⟩ := h2 o ho
    exact hS Γ ρ1 σ1 (sat s h1' tk1) Q X W (V.mono hr) hX hp FF fun q hq ρ2 σ2 h2' tk2 hr2 hs2 => P q (hsub q hq) ρ2 σ2 h2' tk2 (hr.trans hr2) (hs.trans hs2)
  · rw [hn o ho] at hC; cases hC
theorem FSx.turnT (F : FSx Γ st ρ σ h g m os) : FSx Γ (st.re st.frz true) ρ σ h g m os := ⟨F.T, fun e => (nomatch e), F.B, F.D, F.F, F.N, F.O, F.len, F.M, F.asc, F.ap, F.bd, F.sm, F.Mp, F.Z⟩
theorem clob_set {x : SO} {l : List SO} : (clobGo [i] 0 l).set i x = l.set i x := by
  apply List.ext_getElem?
  intro j
  by_cases e : i = j
  · subst e
    rw [List.getElem?_set, List.getElem?_set, clobGo_len]; simp
  · rw [List.getElem?_set_ne e, List.getElem?_set_ne e, clobGo_get, Nat.zero_add]
    have : ([i] : List Nat).contains j = false := by simpa using fun q => e q.symm
    rw [this]
    simp
theorem nodup1 {α : Type} {a : α} : [a].Nodup := List.nodup_cons.mpr ⟨(fun h => nomatch h), List.nodup_nil⟩
theorem sel1 {q : Addr} (hq : ρ[i]? = some q) : selA [i] ρ = [q] := by unfold selA; rw [List.map_cons, List.map_nil, List.getD_eq_getElem?_getD, hq]; rfl
theorem get2 {α : Type} {l : List α} {x y : α} {k : Nat} (h : k = l.length) : (l ++ [x] ++ [y])[k]? = some x ∧ (l ++ [x] ++ [y])[k + 1]? = some y := by
  subst h
  rw [List.append_assoc]
  exact ⟨by rw [List.getElem?_append_right (Nat.le_refl _), Nat.sub_self]; rfl, by rw [List.getElem?_append_right (Nat.le_add_right _ _), Nat.add_sub_cancel_left]; rfl⟩
/-- the source has been drawn from, by a run that saw it alone -/
theorem FSx.back_src (F : FSx Γ st ρ σ h g m os) {q : Addr} (hq : ρ[i]? = some q) {pn : Option (Str → Option Value)} (hz : ∀ z ∈ Γ.fz, z.1 ≠ i) {st' : St} {ρ' : List Addr} {σ' : List Int} {h' g' : Heap} {m' : Str → Option Value} {os' : List Obj}
    (F' : FSx (Γ.few g ρ os (selA [i] ρ) pn) st' ρ' σ' h' g' m' os') (hp : selA [i] ρ <+: ρ') (hsrc : srcG st' 0 = some u) {loc' : List (Str × SV)} (hloc : ∀ x v, loc'.lookup x = some v → ∃ v', m' x = some v' ∧ VR ρ σ v v') (hpin : ∀ m₀, Γ.pin = some m₀ → m' = m₀) :
    ∃ σ2, σ <+: σ2 ∧ FS Γ (drawn st i loc') ρ σ2 h' := by
  have hil : i < ρ.length := (List.getElem?_eq_some_iff.mp hq).1
  have hA : selA [i] ρ = [q] := sel1 hq
  have h0 : ρ'[0]? = some q := pre_get hp (by rw [hA]; rfl)
  obtain ⟨x', y', tx', ty', n', ho', x0, y0, y1, _⟩ := F'.src hsrc h0
  have F1 := ((F.absorb (fun j hj => by rw [List.mem_singleton.mp hj]; exact hil) (fun z hz' hm => hz z hz' (List.mem_singleton.mp hm)) F' hp hloc hpin).turnT.letter (bX_ok x0)).letter (bY_ok y0 y1)
  obtain ⟨o, ho⟩ : ∃ o, os[i]? = some o := ⟨_, List.getElem?_eq_getElem (by rw [← F.len]; exact hil)⟩
  have hos : (newObjs (selA [i] ρ) os' ρ os)[i]? = some (srcL x' y' tx' ty' n') := by
    rw [newObjs_get hq ho, hA, lookup_nodup (k := 0) nodup1 rfl ho']; rfl
  obtain ⟨g1, g2⟩ := get2 (x := x') (y := y') F.blen
  have F3 : FSx Γ ⟨loc', (clobGo [i] 0 st.objs).set i (srcV st.bnd.length), st.bnd ++ [bX] ++ [bY], true, st.frz, st.sums⟩ _ _ _ _ _ _ := F1.sym (i := i) hos (srcV_ok g1 g2)
  rw [clob_set] at F3
  exact ⟨σ ++ [x'] ++ [y'], by rw [List.append_assoc]; exact List.prefix_append _ _, g', m', _, F3⟩
theorem src_bd {x y : Int} (x0 : 0 ≤ x) (y0 : 0 ≤ y) (y1 : y ≤ 2147483646) : F2 BR [bX, bY] [x, y] := .cons (bX_ok x0) (.cons (bY_ok y0 y1) .nil)
/-- the rest of a right, which sees the source alone -/
theorem ss_src {b : List Stmt} {l : List (RR × St)} (hsuf : SsG ⟨sc.cs, [], sc.cv, sc.lvl, sc.loop, sc.code, sc.cn⟩ b stU l) (hok : ∀ o ∈ l, o.1 = .ret (.bool true) ∧ srcG o.2 0 = some ()) (hloc : st.loc.lookup (Str.ofString "source") = some (.own i)) (hsrc : srcG st i = some u) : SsG sc b st [(.ret (.bool true), drawn st i [])] := by
  intro Γ ρ σ s Q X W V hX hp F P
  obtain ⟨g, m, os, FX⟩ := F
  obtain ⟨v', hm, q, hq, rfl⟩ := FX.M _ _ hloc
  obtain ⟨x, y, tx, ty, n, ho, x0, y0, y1, hz⟩ := FX.src hsrc hq
  have hil : i < ρ.length := (List.getElem?_eq_some_iff.mp hq).1
  have hA : selA [i] ρ = [q] := sel1 hq
  have FN := FX.narrow (sel := [i]) (pn := none) (sts := stU) (σs := [x, y]) (oss := [srcL x y tx ty n]) (fun _ e => nomatch e) (fun j hj => by rw [List.mem_singleton.mp hj]; exact hil) nodup1 (by rw [List.map_cons, List.map_nil, List.getD_eq_getElem?_getD, ho]; rfl) (.cons (srcV_ok rfl rfl) .nil) (src_bd x0 y0 y1) (fun z v e => by
    have e : ((Str.ofString "source", SV.own 0) :: []).lookup z = some v := e
    rw [List.lookup_cons] at e
    cases hzx : z == Str.ofString "source" with
    | true =>
      rw [hzx] at e
      cases e
      exact ⟨_, by rw [beq_iff_eq.mp hzx]; exact hm, q, by rw [hA]; rfl, rfl⟩
    | false => rw [hzx] at e; cases e) rfl
  refine hsuf (Γ.few g ρ os (selA [i] ρ) none) _ [x, y] s _ _ ⟨W.frames, W.hand, W.kind, W.room, W.units⟩ ⟨V.cs, V.cv, fun z j e => (by cases e), V.own, V.code, V.cn⟩ hX rfl ⟨_, _, _, FN⟩ fun o hol ρ1 σ1 h1 tk1 hr hs => ⟨fun f hf FF => ?_, fun C e hC _ => ?_⟩
  · obtain ⟨ho1, ho2⟩ := hok o hol
    rw [ho1] at hf
    obtain ⟨yv, rfl, hy⟩ := hf
    cases (show yv = .bool true from hy)
    obtain ⟨g', m', os', F'⟩ := FF
    obtain ⟨σ2, hs2, FB⟩ := FX.back_src hq hz F' hr ho2 (loc' := []) (fun _ _ e => nomatch e) (fun m₀ e => by rw [hp] at e; cases e)
    exact (P _ (.head _) ρ σ2 h1 tk1 (List.prefix_refl _) hs2).1 (.ret (.bool true)) ⟨_, rfl, rfl⟩ FB
  · rw [(hok o hol).1] at hC; cases hC
/-- a call that sees the source alone -/
theorem few_src {lvl : Nat} {f : Addr} {as : List SV} {l : List (RR × St)} (hc : CG lvl f (.own 0 :: as) stS l) (hok : ∀ o ∈ l, isExc o.1 = false ∧ srcG o.2 0 = some ()) (has : ∀ ρ σ ρ' σ' xs, F2 (VR ρ σ) as xs → F2 (VR ρ' σ') as xs) {lvl' : Nat} (hlv : lvl ≤ lvl') (hsrc : srcG st i = some u)
    {xs : List Value} {s : Shared} {Q : Value → Shared → Prop} {X : Value → Shared → Prop} (W : WF Γ lvl') (ha : F2 (VR ρ σ) (.own i :: as) xs) (F : FS Γ st ρ σ s.heap)
    (k : ∀ o ∈ l, ∀ a ρ' σ' σ2 h1 tk1, relE ρ' σ' o.1 a → F2 BR o.2.bnd σ' → σ <+: σ2 → FS Γ (drawn st i st.loc) ρ σ2 h1 → Q a (sat s h1 tk1)) : wpAny (model prg w) Γ.A (call (.ref f) xs) Q X s := by
  obtain ⟨g, m, os, FX⟩ := F
  cases ha with
  | cons h1 hr =>
    obtain ⟨q, hq, rfl⟩ := h1
    obtain ⟨x, y, tx, ty, n, ho, x0, y0, y1, hz⟩ := FX.src hsrc hq
    have hil : i < ρ.length := (List.getElem?_eq_some_iff.mp hq).1
    have hA : selA [i] ρ = [q] := sel1 hq
    have FN := FX.narrow (sel := [i]) (pn := some m) (sts := stS) (σs := [x, y]) (oss := [srcL x y tx ty n]) (fun _ e => Option.some.inj e) (fun j hj => by rw [List.mem_singleton.mp hj]; exact hil) nodup1 (by rw [List.map_cons, List.map_nil, List.getD_eq_getElem?_getD, ho]; rfl) (.cons (srcV_ok rfl rfl) .nil) (src_bd x0 y0 y1) (fun z v e => nomatch e) rfl
    refine hc (Γ.few g ρ os (selA [i] ρ) (some m)) _ [x, y] _ s _ _ ⟨W.frames, W.hand, W.kind, by have := W.room; show Γ.A.depth + 4 * lvl + 8 < _; omega, by have := W.units; show Γ.A.units + 30 * lvl + 200 < _; omega⟩ (.cons ⟨q, by rw [hA]; rfl, rfl⟩ (has _ _ _ _ _ hr)) ⟨_, _, _, FN⟩ fun o hol ρ1 σ1 h1 tk1 hr hs => ⟨fun a hf FF => ?_, fun C e hC _ => ?_⟩
    · obtain ⟨g', m', os', F'⟩ := FF
      have hm' : m' = m := F'.Mp m rfl
      obtain ⟨σ2, hs2, FB⟩ := FX.back_src hq hz F' hr (hok o hol).2 (loc' := st.loc) (fun z v e => by rw [hm']; exact FX.M z v e) (fun m₀ e => hm'.trans (FX.Mp m₀ e))
      exact k o hol a ρ1 σ1 σ2 h1 tk1 hf F'.bd hs2 FB
    · have := (hok o hol).1
      rw [hC] at this; cases this
/-- a right that sees the source alone -/
theorem call_src {lvl : Nat} {f : Addr} {l : List (RR × St)} (hc : CG lvl f [.own 0] stS l) (hok : ∀ o ∈ l, o.1 = .val (.bool true) ∧ srcG o.2 0 = some ()) {lvl' : Nat} (hlv : lvl ≤ lvl') (hsrc : srcG st i = some u) : CG lvl' f [.own i] st [(.val (.bool true), drawn st i st.loc)] :=
  fun Γ ρ σ xs s Q X W ha F P => few_src hc (fun o ho => ⟨by rw [(hok o ho).1]; rfl, (hok o ho).2⟩) (fun _ _ _ _ _ h => by cases h; exact .nil) hlv hsrc W ha F fun o ho a ρ' σ' σ2 h1 tk1 hf _ hs FB => by
    rw [(hok o ho).1] at hf
    cases (show a = .bool true from hf)
    exact (P _ (.head _) ρ σ2 h1 tk1 (List.prefix_refl _) hs).1 (.bool true) rfl FB
end

end
-- W27
section
noncomputable def stT0 (a : Addr) : St := ⟨[], [srcV 0, .tab 1 a []], [bX, bY], false, [], []⟩
noncomputable def stT1 (a : Addr) (line col : Nat) (q : Str) : St := ⟨[], [srcV 0, .tab 1 a [(line, col, 2)], .code q], [bX, bY], false, [], []⟩
noncomputable def tabbed (d : St) (t : Nat) (a b : SO) : St := ⟨d.loc, d.objs.set t a ++ [b], d.bnd, d.turn, d.frz, d.sums⟩
theorem selA2 {ρ : List Addr} {i t : Nat} {a b : Addr} (ha : ρ[i]? = some a) (hb : ρ[t]? = some b) : selA [i, t] ρ = [a, b] := by unfold selA; simp [List.getD_eq_getElem?_getD, ha, hb]
theorem selA3 {ρ : List Addr} {i t n : Nat} {a b c : Addr} (ha : ρ[i]? = some a) (hb : ρ[t]? = some b) (hc : ρ[n]? = some c) : selA [i, t, n] ρ = [a, b, c] := by unfold selA; simp [List.getD_eq_getElem?_getD, ha, hb, hc]
section
variable {Γ : FC} {st : St} {ρ : List Addr} {σ : List Int} {h g : Heap} {m : Str → Option Value} {os : List Obj} {u : Unit}
theorem FSx.ne_of (F : FSx Γ st ρ σ h g m os) {i j : Nat} {a b : Addr} (ha : ρ[i]? = some a) (hb : ρ[j]? = some b) (hne : i ≠ j) : a ≠ b := fun e => by
  obtain ⟨h1, e1⟩ := List.getElem?_eq_some_iff.mp ha
  obtain ⟨h2, e2⟩ := List.getElem?_eq_some_iff.mp hb
  exact hne ((List.getElem_inj F.asc).mp (e1.trans (e.trans e2.symm)))
/-- a right that makes a lambda for the first time -/
theorem call_tab0 {lvl : Nat} {f a : Addr} {line col : Nat} {q : Str} {l : List (RR × St)} (hc : CG lvl f [.own 0] (stT0 a) l) (hok : ∀ o ∈ l, o.1 = .val (.bool true) ∧ srcG o.2 0 = some () ∧ ∃ n, o.2.objs[1]? = some (.tab 1 a [(line, col, n)]) ∧ o.2.objs[n]? = some (.code q)) {lvl' : Nat} (hlv : lvl ≤ lvl') {i t : Nat} (hsrc : srcG st i = some u) (ht : st.objs[t]? = some (.tab t a [])) (hft : st.frz.contains t = false) :
    CG lvl' f [.own i] st [(.val (.bool true), tabbed (drawn st i st.loc) t (.tab t a [(line, col, st.objs.length)]) (.code q))] := by
  intro Γ ρ σ xs s Q X W ha F P
  obtain ⟨g, m, os, FX⟩ := F
  obtain _ | ⟨⟨s0, hs0, rfl⟩, _ | _⟩ := ha
  obtain ⟨x, y, tx, ty, n, ho, x0, y0, y1, hz⟩ := FX.src hsrc hs0
  obtain ⟨ta, ot, hta, hot, ⟨hta', pa, rfl, htr⟩, _⟩ := FX.obj ht
  rw [hta] at hta'; cases hta'
  have hzt : ∀ z ∈ Γ.fz, z.1 ≠ t := FX.free hot (fun z => by obtain ⟨z, _⟩ := z; cases z) hft
  have hit : i ≠ t := fun e => by subst e; rw [ho] at hot; cases hot
  have hil : i < ρ.length := (List.getElem?_eq_some_iff.mp hs0).1
  have htl : t < ρ.length := (List.getElem?_eq_some_iff.mp hta).1
  have hl : ∀ j ∈ [i, t], j < ρ.length := fun j hj => by
    simp only [List.mem_cons, List.not_mem_nil, or_false] at hj
    rcases hj with rfl | rfl <;> assumption
  have hA : selA [i, t] ρ = [s0, a] := selA2 hs0 hta
  have FN := FX.narrow (sel := [i, t]) (pn := some m) (sts := stT0 a) (σs := [x, y]) (oss := [srcL x y tx ty n, tabObj pa]) (fun _ e => Option.some.inj e) hl (by simpa using hit) (by simp [List.getD_eq_getElem?_getD, ho, hot]) (.cons (srcV_ok rfl rfl) (.cons ⟨by rw [hA]; rfl, pa, rfl, htr⟩ .nil)) (src_bd x0 y0 y1) (fun z v e => nomatch e) rfl
  refine hc (Γ.few g ρ os (selA [i, t] ρ) (some m)) _ [x, y] _ s _ _ ⟨W.frames, W.hand, W.kind, by have := W.room; show Γ.A.depth + 4 * lvl + 8 < _; omega, by have := W.units; show Γ.A.units + 30 * lvl + 200 < _; omega⟩ (.cons ⟨s0, by rw [hA]; rfl, rfl⟩ .nil) ⟨_, _, _, FN⟩ fun o hol ρ' σ1 h' tk1 hr hs => ⟨fun r hf FF => ?_, fun C e hC _ => ?_⟩
  · obtain ⟨ho1, ho2, k, hk1, hk2⟩ := hok o hol
    rw [ho1] at hf
    have hf : r = .bool true := hf
    subst hf
    obtain ⟨g', m', os', F'⟩ := FF
    have hm' : m' = m := F'.Mp m rfl
    have h0 : ρ'[0]? = some s0 := pre_get hr (by rw [hA]; rfl)
    have h1 : ρ'[1]? = some a := pre_get hr (by rw [hA]; rfl)
    obtain ⟨x', y', tx', ty', n', ho', x0, y0, y1, _⟩ := F'.src ho2 h0
    obtain ⟨o1, ho1', ⟨_, ps1, rfl, c, tl, hps, hck, htl'⟩, _⟩ := F'.at h1 hk1
    dsimp only at hck hps
    obtain ⟨oc, hoc, ⟨fs, tq, hfs, hfs1⟩, hmc⟩ := F'.at hck hk2
    have hk0 : 2 ≤ k := by
      rcases Nat.lt_or_ge k 2 with q | q
      · exfalso
        match k, q with
        | 0, _ => exact i_ob (fun o e h => by rw [hk2] at h; cases h; exact dead e) ho2
        | 1, _ => rw [hk1] at hk2; cases hk2
      · exact q
    have hcn : ∀ p ∈ ρ.zip os ++ Γ.extra, p.1 ≠ c := fun p hp e => by
      rcases List.mem_append.mp hp with hp | hp
      · by_cases hm : p.1 ∈ selA [i, t] ρ
        · rw [hA, e] at hm
          simp only [List.mem_cons, List.not_mem_nil, or_false] at hm
          rcases hm with rfl | rfl
          · exact F'.ne_of hck h0 (by omega) rfl
          · exact F'.ne_of hck h1 (by omega) rfl
        · refine F'.ap p (List.mem_append_left _ (List.mem_filter.mpr ⟨hp, ?_⟩)) (by rw [e]; exact List.mem_of_getElem? hck)
          rw [Bool.not_eq_true']
          cases z : (selA [i, t] ρ).contains p.1 with
          | false => rfl
          | true => exact absurd (List.contains_iff_mem.mp z) hm
      · exact F'.ap p (List.mem_append_right _ hp) (by rw [e]; exact List.mem_of_getElem? hck)
    have FA := (FX.absorb hl (fun z hz' hm => by
      simp only [List.mem_cons, List.not_mem_nil, or_false] at hm
      rcases hm with q | q
      · exact hz z hz' q
      · exact hzt z hz' q) F' hr (loc' := st.loc) (fun z v e => by rw [hm']; exact FX.M z v e) (fun m₀ e => hm'.trans (FX.Mp m₀ e))).turnT
    have b1 := bX_ok x0
    have b2 := bY_ok y0 y1
    obtain ⟨z1, z2⟩ := get2 (x := x') (y := y') FX.blen
    have hb : st.bnd.length = σ.length := FX.blen
    have hn : st.objs.length = ρ.length := FX.O.length.trans FX.len.symm
    have hsd : (selA [i, t] ρ).Nodup := FN.asc
    have hos : (newObjs (selA [i, t] ρ) os' ρ os)[i]? = some (srcL x' y' tx' ty' n') := by
      rw [newObjs_get hs0 ho, lookup_nodup (k := 0) hsd (by rw [hA]; rfl) ho']; rfl
    have hos2 : (newObjs (selA [i, t] ρ) os' ρ os)[t]? = some (tabObj ps1) := by
      rw [newObjs_get hta hot, lookup_nodup (k := 1) hsd (by rw [hA]; rfl) ho1']; rfl
    have hlen : (newObjs (selA [i, t] ρ) os' ρ os).length = ρ.length := by rw [newObjs_len FX.len, FX.len]
    have F1 := (FA.letter b1).letter b2
    have F2 := F1.fresh F1.F (so := .code q) (o := oc) (D := c) (fun p hp => by
      rcases List.mem_cons.mp hp with rfl | hp
      · exact F'.N _ hmc
      · exact F1.N p hp) (fun p hp => by
      rcases List.mem_append.mp hp with hp | hp
      · obtain ⟨o', ho''⟩ := zip_mem FX.len (zip_key hp)
        exact hcn (p.1, o') (List.mem_append_left _ ho'')
      · exact hcn p (List.mem_append_right _ hp)) ⟨fs, tq, hfs, hfs1⟩
    have F3 := F2.sym (i := t) (so := .tab t a [(line, col, st.objs.length)]) (o := tabObj ps1) (by rw [List.getElem?_append_left (by rw [hlen]; exact htl)]; exact hos2) ⟨pre_get (List.prefix_append _ _) hta, ps1, rfl, c, tl, hps, by show (ρ ++ [c])[st.objs.length]? = some c; rw [hn]; simp, htl'⟩
    have F4 := F3.sym (i := i) (so := srcV st.bnd.length) (o := srcL x' y' tx' ty' n') (by rw [List.getElem?_append_left (by rw [hlen]; exact hil)]; exact hos) (srcV_ok z1 z2)
    have e : ((clobGo [i, t] 0 st.objs ++ [SO.code q]).set t (SO.tab t a [(line, col, st.objs.length)])).set i (srcV st.bnd.length) = (st.objs.set i (srcV st.bnd.length)).set t (SO.tab t a [(line, col, st.objs.length)]) ++ [SO.code q] := by
      rw [List.set_append_left _ _ (by rw [clobGo_len, hn]; exact htl), List.set_append_left _ _ (by rw [List.length_set, clobGo_len, hn]; exact hil)]
      congr 1
      apply List.ext_getElem?
      intro j
      by_cases e1 : i = j
      · subst e1
        rw [List.getElem?_set_self (by rw [List.length_set, clobGo_len, hn]; exact hil), List.getElem?_set_ne (Ne.symm hit), List.getElem?_set_self (by rw [hn]; exact hil)]
      · rw [List.getElem?_set_ne e1]
        by_cases e2 : t = j
        · subst e2
          rw [List.getElem?_set_self (by rw [clobGo_len, hn]; exact htl), List.getElem?_set_self (by rw [List.length_set, hn]; exact htl)]
        · rw [List.getElem?_set_ne e2, List.getElem?_set_ne e2, List.getElem?_set_ne e1, clobGo_get, Nat.zero_add]
          have : ([i, t] : List Nat).contains j = false := by simpa using ⟨fun q => e1 q.symm, fun q => e2 q.symm⟩
          rw [this]; simp
    have F5 : FSx Γ ⟨st.loc, ((clobGo [i, t] 0 st.objs ++ [SO.code q]).set t (SO.tab t a [(line, col, st.objs.length)])).set i (srcV st.bnd.length), st.bnd ++ [bX] ++ [bY], true, st.frz, st.sums⟩ _ _ _ _ _ _ := F4
    rw [e] at F5
    exact (P _ (.head _) (ρ ++ [c]) (σ ++ [x'] ++ [y']) h' tk1 (List.prefix_append _ _) (by rw [List.append_assoc]; exact List.prefix_append _ _)).1 (.bool true) rfl ⟨g', m', _, F5⟩
  · rw [(hok o hol).1] at hC; cases hC
/-- a right that makes a lambda again -/
theorem call_tab1 {lvl : Nat} {f a : Addr} {line col : Nat} {q : Str} {l : List (RR × St)} (hc : CG lvl f [.own 0] (stT1 a line col q) l) (hok : ∀ o ∈ l, o.1 = .val (.bool true) ∧ srcG o.2 0 = some () ∧ o.2.objs[1]? = some (.tab 1 a [(line, col, 2)]) ∧ o.2.objs[2]? = some (.code q)) {lvl' : Nat} (hlv : lvl ≤ lvl') {i t k : Nat} (hsrc : srcG st i = some u) (ht : st.objs[t]? = some (.tab t a [(line, col, k)])) (hk : st.objs[k]? = some (.code q)) (hft : st.frz.contains t = false) (hfk : st.frz.contains k = false) :
    CG lvl' f [.own i] st [(.val (.bool true), drawn st i st.loc)] := by
  intro Γ ρ σ xs s Q X W ha F P
  obtain ⟨g, m, os, FX⟩ := F
  obtain _ | ⟨⟨s0, hs0, rfl⟩, _ | _⟩ := ha
  obtain ⟨x, y, tx, ty, n, ho, x0, y0, y1, hz⟩ := FX.src hsrc hs0
  obtain ⟨ta, ot, hta, hot, ⟨hta', pa, rfl, c, tl, hpa, hc0, htl0⟩, _⟩ := FX.obj ht
  rw [hta] at hta'; cases hta'
  dsimp only at hpa hc0
  obtain ⟨oc, hoc, ⟨fs, tq, hfs, hfs1⟩, _⟩ := FX.at hc0 hk
  have hzt : ∀ z ∈ Γ.fz, z.1 ≠ t := FX.free hot (fun z => by obtain ⟨z, _⟩ := z; cases z) hft
  have hzk : ∀ z ∈ Γ.fz, z.1 ≠ k := fun z hz' e => by
    obtain ⟨h1, h2⟩ := FX.Z z hz'
    rcases h2 with h2 | h2
    · rw [e, hoc] at h1
      have h1 := Option.some.inj h1
      obtain ⟨_, vs, n, hd⟩ := h2
      rw [← h1, hfs] at hd; cases hd
    · rw [e] at h2
      rw [List.contains_iff_mem.mpr h2] at hfk; cases hfk
  have hit : i ≠ t := fun e => by subst e; rw [ho] at hot; cases hot
  have htk : t ≠ k := fun e => by subst e; rw [ht] at hk; cases hk
  have hik : i ≠ k := fun e => by
    subst e
    rw [ho] at hoc
    have hoc := Option.some.inj hoc
    rw [← hoc] at hfs; cases hfs
  have hil : i < ρ.length := (List.getElem?_eq_some_iff.mp hs0).1
  have htl : t < ρ.length := (List.getElem?_eq_some_iff.mp hta).1
  have hkl : k < ρ.length := (List.getElem?_eq_some_iff.mp hc0).1
  have hl : ∀ j ∈ [i, t, k], j < ρ.length := fun j hj => by
    simp only [List.mem_cons, List.not_mem_nil, or_false] at hj
    rcases hj with rfl | rfl | rfl <;> assumption
  have hA : selA [i, t, k] ρ = [s0, a, c] := selA3 hs0 hta hc0
  have FN := FX.narrow (sel := [i, t, k]) (pn := some m) (sts := stT1 a line col q) (σs := [x, y]) (oss := [srcL x y tx ty n, tabObj pa, oc]) (fun _ e => Option.some.inj e) hl (by simp [hit, htk, hik]) (by simp [List.getD_eq_getElem?_getD, ho, hot, hoc]) (.cons (srcV_ok rfl rfl) (.cons ⟨by rw [hA]; rfl, pa, rfl, c, tl, hpa, by rw [hA]; rfl, htl0⟩ (.cons ⟨fs, tq, hfs, hfs1⟩ .nil))) (src_bd x0 y0 y1) (fun z v e => nomatch e) rfl
  refine hc (Γ.few g ρ os (selA [i, t, k] ρ) (some m)) _ [x, y] _ s _ _ ⟨W.frames, W.hand, W.kind, by have := W.room; show Γ.A.depth + 4 * lvl + 8 < _; omega, by have := W.units; show Γ.A.units + 30 * lvl + 200 < _; omega⟩ (.cons ⟨s0, by rw [hA]; rfl, rfl⟩ .nil) ⟨_, _, _, FN⟩ fun o hol ρ' σ1 h' tk1 hr hs => ⟨fun r hf FF => ?_, fun C e hC _ => ?_⟩
  · obtain ⟨ho1, ho2, hk1, hk2⟩ := hok o hol
    rw [ho1] at hf
    have hf : r = .bool true := hf
    subst hf
    obtain ⟨g', m', os', F'⟩ := FF
    have hm' : m' = m := F'.Mp m rfl
    have h0 : ρ'[0]? = some s0 := pre_get hr (by rw [hA]; rfl)
    have h1 : ρ'[1]? = some a := pre_get hr (by rw [hA]; rfl)
    have h2 : ρ'[2]? = some c := pre_get hr (by rw [hA]; rfl)
    obtain ⟨x', y', tx', ty', n', ho', x0, y0, y1, _⟩ := F'.src ho2 h0
    obtain ⟨o1, ho1', ⟨_, ps1, rfl, c', tl', hps, hck, htl'⟩, _⟩ := F'.at h1 hk1
    dsimp only at hck hps
    rw [h2] at hck; cases hck
    obtain ⟨oc', hoc', hor', _⟩ := F'.at h2 hk2
    have FA := (FX.absorb hl (fun z hz' hm => by
      simp only [List.mem_cons, List.not_mem_nil, or_false] at hm
      rcases hm with q | q | q
      · exact hz z hz' q
      · exact hzt z hz' q
      · exact hzk z hz' q) F' hr (loc' := st.loc) (fun z v e => by rw [hm']; exact FX.M z v e) (fun m₀ e => hm'.trans (FX.Mp m₀ e))).turnT
    have b1 := bX_ok x0
    have b2 := bY_ok y0 y1
    obtain ⟨z1, z2⟩ := get2 (x := x') (y := y') FX.blen
    have hb : st.bnd.length = σ.length := FX.blen
    have hn : st.objs.length = ρ.length := FX.O.length.trans FX.len.symm
    have hsd : (selA [i, t, k] ρ).Nodup := FN.asc
    have hos : (newObjs (selA [i, t, k] ρ) os' ρ os)[i]? = some (srcL x' y' tx' ty' n') := by
      rw [newObjs_get hs0 ho, lookup_nodup (k := 0) hsd (by rw [hA]; rfl) ho']; rfl
    have hos2 : (newObjs (selA [i, t, k] ρ) os' ρ os)[t]? = some (tabObj ps1) := by
      rw [newObjs_get hta hot, lookup_nodup (k := 1) hsd (by rw [hA]; rfl) ho1']; rfl
    have hos3 : (newObjs (selA [i, t, k] ρ) os' ρ os)[k]? = some oc' := by
      rw [newObjs_get hc0 hoc, lookup_nodup (k := 2) hsd (by rw [hA]; rfl) hoc']; rfl
    have F1 := (FA.letter b1).letter b2
    have F3 := F1.sym (i := t) (so := .tab t a [(line, col, k)]) (o := tabObj ps1) hos2 ⟨hta, ps1, rfl, c, tl', hps, hc0, htl'⟩
    have F3b := F3.sym (i := k) (so := .code q) (o := oc') hos3 hor'
    have F4 := F3b.sym (i := i) (so := srcV st.bnd.length) (o := srcL x' y' tx' ty' n') hos (srcV_ok z1 z2)
    have e : (((clobGo [i, t, k] 0 st.objs).set t (SO.tab t a [(line, col, k)])).set k (SO.code q)).set i (srcV st.bnd.length) = st.objs.set i (srcV st.bnd.length) := by
      apply List.ext_getElem?
      intro j
      by_cases e1 : i = j
      · subst e1
        rw [List.getElem?_set_self (by rw [List.length_set, List.length_set, clobGo_len, hn]; exact hil), List.getElem?_set_self (by rw [hn]; exact hil)]
      · rw [List.getElem?_set_ne e1, List.getElem?_set_ne e1]
        by_cases e3 : k = j
        · subst e3
          rw [List.getElem?_set_self (by rw [List.length_set, clobGo_len, hn]; exact hkl), hk]
        · rw [List.getElem?_set_ne e3]
          by_cases e2 : t = j
          · subst e2
            rw [List.getElem?_set_self (by rw [clobGo_len, hn]; exact htl), ht]
          · rw [List.getElem?_set_ne e2, clobGo_get, Nat.zero_add]
            have : ([i, t, k] : List Nat).contains j = false := by simpa using ⟨fun q => e1 q.symm, fun q => e2 q.symm, fun q => e3 q.symm⟩
            rw [this]; simp
    have F5 : FSx Γ ⟨st.loc, (((clobGo [i, t, k] 0 st.objs).set t (SO.tab t a [(line, col, k)])).set k (SO.code q)).set i (srcV st.bnd.length), st.bnd ++ [bX] ++ [bY], true, st.frz, st.sums⟩ _ _ _ _ _ _ := F4
    rw [e] at F5
    exact (P _ (.head _) ρ (σ ++ [x'] ++ [y']) h' tk1 (List.prefix_refl _) (by rw [List.append_assoc]; exact List.prefix_append _ _)).1 (.bool true) rfl ⟨g', m', _, F5⟩
  · rw [(hok o hol).1] at hC; cases hC
end

end
-- W28
section
noncomputable def all1 {α : Type} (f : α → Option Unit) (l : List α) : Option Unit := List.rec (some ()) (fun o _ ih => ob (f o) fun _ => ih) l
theorem all1_ok {α : Type} {f : α → Option Unit} {l : List α} {u : Unit} : all1 f l = some u → ∀ o ∈ l, f o = some () := by
  induction l with
  | nil => intro _ o h; cases h
  | cons a r ih => exact fun h => i_ob (fun _ h ha o hm => (List.mem_cons.mp hm).elim (fun e => by rw [e]; exact ha) (ih h o)) h
noncomputable def tops : List Int := [3, 4, 5, 6, 8, 9, 10, 4095, 65535]
noncomputable def okT (top : Int) (o : RR × St) : Option Unit := rVal (fun v st => onInt v fun a => ob (siB st a) fun p => ob p.1 fun l => ob p.2 fun u => gd (decide (0 ≤ l) && decide (u < top)) (srcG st 0)) o.1 o.2
noncomputable def takeRun (P : Params) (top : Int) : Option Unit := ob (run P hookA 60 (.C 8 (.imm (.ref 839)) [.own 0, .int (.lit top)]) stS) (all1 (okT top))
set_option maxRecDepth 1000000 in
theorem kT (P : Params) : all1 (takeRun P) tops = some () := by kernel_rfl
noncomputable def takeO (st : St) (top : Int) : Outs := cnd (decide (top = 8)) (some ([0, 1, 2, 3, 4, 5, 6, 7].map fun k => (.val (.int (.lit k)), st))) (cnd (decide (top = 4095))
  (some [(.val (.int (.lin st.bnd.length 0 (st.bnd.length + 1))), (st.addB (some 0, some 14, none)).addB (some 0, some 255, none)), (.val (.int (.lin st.bnd.length 0 (st.bnd.length + 1))), (st.addB (some 15, some 15, none)).addB (some 0, some 254, none))]) (newI (some 0, some (top - 1)) st))
/-- what is known of drawing -/
noncomputable def hookT : Hook := fun lvl a args st => orE (gd (Nat.beq a 839 && Nat.ble 8 lvl) (l2 args fun s t => onOwn s fun i => onInt t fun t => iLit t fun top => ob (srcG st i) fun _ => gd (tops.contains top) (takeO (drawn st i st.loc) top))) (hookA lvl a args st)
theorem CG.of_good {ih : Run} (G : Good ih) {lvl : Nat} {a : Addr} {args : List SV} {st : St} {l : List (RR × St)} (h : ih (.C lvl (.imm (.ref a)) args) st = some l) : CG lvl a args st l := fun Γ ρ σ xs s Q X W ha F P => G.C _ _ _ _ _ h Γ ρ σ (.ref a) xs s Q X W rfl ha F P
section
variable {Γ : FC} {st : St} {ρ : List Addr} {σ : List Int} {s : Shared} {Q : Value → Shared → Prop} {X : Value → Shared → Prop} {outs : List (RR × St)}
theorem takeO_ok {top d : Int} {t : Tok} {h1 : Heap} {tk1 : Nat} (h : takeO st top = some outs) (d0 : 0 ≤ d) (d1 : d < top) (F : FS Γ st ρ σ h1) (P : Post relE Γ ρ σ s outs Q X) : Q (.int d t) (sat s h1 tk1) := by
  obtain ⟨g, m, os, FX⟩ := F
  refine i_cnd (fun h e => ?_) (fun h _ => i_cnd (fun h e => ?_) (fun h _ => ?_) h) h
  · cases of_decide_eq_true e
    cases h
    refine (P (.val (.int (.lit d)), st) (List.mem_map_of_mem (f := fun k => (RR.val (.int (.lit k)), st)) ?_) ρ σ h1 tk1 (List.prefix_refl _) (List.prefix_refl _)).1 (.int d t) ⟨d, t, rfl, rfl⟩ ⟨g, m, os, FX⟩
    have : d = 0 ∨ d = 1 ∨ d = 2 ∨ d = 3 ∨ d = 4 ∨ d = 5 ∨ d = 6 ∨ d = 7 := by omega
    rcases this with rfl | rfl | rfl | rfl | rfl | rfl | rfl | rfl <;> decide
  · cases of_decide_eq_true e
    cases h
    have br : ∀ {a b x : Int}, a ≤ x → x ≤ b → BR (some a, some b, none) x := fun h1 h2 => ⟨⟨fun l e => by cases e; exact h1, fun u e => by cases e; exact h2⟩, fun D e => nomatch e⟩
    obtain ⟨g1, g2⟩ := get2 (x := d / 256) (y := d % 256) FX.blen
    have hv : VR ρ (σ ++ [d / 256] ++ [d % 256]) (.int (.lin st.bnd.length 0 (st.bnd.length + 1))) (.int d t) := ⟨d, t, rfl, _, _, g1, g2, by omega⟩
    have hp : σ <+: σ ++ [d / 256] ++ [d % 256] := by rw [List.append_assoc]; exact List.prefix_append _ _
    by_cases q : d < 3840
    · exact (P _ (.head _) ρ _ h1 tk1 (List.prefix_refl _) hp).1 (.int d t) hv ⟨g, m, os, (FX.letter (br (by omega) (by omega))).letter (br (by omega) (by omega))⟩
    · exact (P _ (.tail _ (.head _)) ρ _ h1 tk1 (List.prefix_refl _) hp).1 (.int d t) hv ⟨g, m, os, (FX.letter (br (by omega) (by omega))).letter (br (by omega) (by omega))⟩
  · exact newI_ok (s := sat s h1 tk1) h ⟨fun l e => by cases e; exact d0, fun u e => by cases e; exact Int.le_sub_one_of_lt d1⟩ ⟨g, m, os, FX⟩ P
theorem hookT_ok (XB : (hd.heap_1 w.params).In base) (TB : Top p loose mean mg mb base) : HookOk hookT := by
  have HA := hookA_ok XB TB
  have G := run_good XB TB HA 60
  intro lvl a args st outs h Γ ρ σ xs s Q X W ha F P
  refine i_or (fun h => i_gd (fun h hc => i_l2 (fun x y h z => i_onOwn (fun i h z2 => i_onInt (fun t h z3 => i_iLit (fun top h z4 => i_ob (fun _ h hs => i_gd (fun h9 ht => ?_) h) h) h) h) h) h) h) (fun h => HA _ _ _ _ _ h Γ ρ σ xs s Q X W ha F P) h
  subst z z2 z3 z4
  obtain ⟨hq, hl⟩ := Bool.and_eq_true_iff.mp hc
  cases Nat.eq_of_beq_eq_true hq
  refine i_ob (fun l hok hrun => ?_) (all1_ok (kT w.params) top (List.contains_iff_mem.mp ht))
  have hall := all1_ok hok
  refine few_src (CG.of_good G hrun) (fun o ho => ?_) (fun _ _ _ _ xs h => by obtain _ | ⟨⟨n, t, e, hn⟩, _ | _⟩ := h; exact .cons ⟨n, t, e, hn⟩ .nil) (Nat.le_of_ble_eq_true hl) hs W ha F fun o ho a ρ' σ' σ2 h1 tk1 hv hb hs2 FB => ?_
  · have := hall o ho
    obtain ⟨o1, o2⟩ := o
    cases o1 <;> try exact dead this
    exact ⟨rfl, i_onInt (fun _ e _ => i_ob (fun _ e _ => i_ob (fun _ e _ => i_ob (fun _ e _ => i_gd (fun e _ => e) e) e) e) e) this⟩
  · have := hall o ho
    obtain ⟨o1, o2⟩ := o
    cases o1 <;> try exact dead this
    refine VR.onInt hv this fun n y t e hn => i_ob (fun p e hp => i_ob (fun lo e h2 => i_ob (fun up e h3 => i_gd (fun _ hc => ?_) e) e) e) e
    obtain ⟨c1, c2⟩ := Bool.and_eq_true_iff.mp hc
    obtain ⟨b1, b2⟩ := siB_ok hb hp hn
    exact takeO_ok h9 (Int.le_trans (of_decide_eq_true c1) (b1 _ h2)) (Int.lt_of_le_of_lt (b2 _ h3) (of_decide_eq_true c2)) FB fun q hq ρ1 σ1 h1 tk1 hr hs => P q hq ρ1 σ1 h1 tk1 hr (hs2.trans hs)
end

end
-- W29
section
noncomputable def okC (p : St → Option Unit) (o : RR × St) : Option Unit := rVal (fun v st => onBool v fun b => gd b (ob (srcG st 0) fun _ => p st)) o.1 o.2
noncomputable def nx (f : Option Unit) (r : RR) : Option Unit := RR.rec (fun _ => none) (fun _ => none) (fun _ => none) f (fun _ => none) (fun _ => none) r
noncomputable def rt (f : SV → Option Unit) (r : RR) : Option Unit := RR.rec (fun _ => none) (fun _ => none) (fun _ => none) none f (fun _ => none) r
noncomputable def okPre (p : St → Option Unit) (o : RR × St) : Option Unit := nx (ob (o.2.loc.lookup (Str.ofString "source")) fun v => onOwn v fun i => gd (Nat.beq i 0) (ob (srcG o.2 0) fun _ => p o.2)) o.1
noncomputable def okSuf (o : RR × St) : Option Unit := rt (fun v => onBool v fun b => gd b (srcG o.2 0)) o.1
/-- a tab of one place, with its code -/
noncomputable def tabOk (k : Nat → Bool) (a line col : Nat) (q : Str) (st : St) : Option Unit := ob st.objs[1]? fun o => oTab o fun i b es => l1 es fun e => gd (Nat.beq i 1 && (Nat.beq b a && (Nat.beq e.1 line && (Nat.beq e.2.1 col && k e.2.2)))) (ob st.objs[e.2.2]? fun o => oCode o fun q' => gd (decide (q' = q)) (some ()))
noncomputable def callRun (P : Params) (f : Nat) (st0 : St) (p : St → Option Unit) : Option Unit := ob (run P hookT 400 (.C 20 (.imm (.ref f)) [.own 0]) st0) (all1 (okC p))
/-- a right, run in two halves -/
noncomputable def cutPre (P : Params) (f k : Nat) (st0 : St) (p : St → Option Unit) : Option Unit := ob (enter P 20 f [.own 0] st0) fun q => ob (run P hookT 400 (.Ss q.1 (q.2.1.take k)) q.2.2) (all1 (okPre p))
noncomputable def cutSuf (P : Params) (f k : Nat) (st0 : St) : Option Unit := ob (enter P 20 f [.own 0] st0) fun q => ob (run P hookT 400 (.Ss ⟨q.1.cs, [], q.1.cv, q.1.lvl, q.1.loop, q.1.code, q.1.cn⟩ (q.2.1.drop k)) stU) (all1 okSuf)
noncomputable def lamP : Str := Str.ofString "_law_ports_right" ++ ".<locals>." ++ "<lambda>"
noncomputable def lamS : Str := Str.ofString "_law_state_right" ++ ".<locals>." ++ "<lambda>"
noncomputable def anyS (_ : St) : Option Unit := some ()
noncomputable def anyN (_ : Nat) : Bool := true
set_option maxRecDepth 1000000
set_option maxHeartbeats 0
theorem k881 (P : Params) : callRun P 881 stS anyS = some () := by kernel_rfl
theorem k900 (P : Params) : callRun P 900 stS anyS = some () := by kernel_rfl
theorem k874 (P : Params) : cutPre P 874 5 stS anyS = some () := by kernel_rfl
theorem k874s (P : Params) : cutSuf P 874 5 stS = some () := by kernel_rfl
theorem k888a (P : Params) : cutPre P 888 3 (stT0 883) (tabOk anyN 883 534 23 lamP) = some () := by kernel_rfl
theorem k888b (P : Params) : cutPre P 888 3 (stT1 883 534 23 lamP) (tabOk (Nat.beq 2) 883 534 23 lamP) = some () := by kernel_rfl
theorem k888s (P : Params) : cutSuf P 888 3 (stT0 883) = some () := by kernel_rfl
theorem k888t (P : Params) : cutSuf P 888 3 (stT1 883 534 23 lamP) = some () := by kernel_rfl
theorem k893a (P : Params) : callRun P 893 (stT0 890) (tabOk anyN 890 548 27 lamS) = some () := by kernel_rfl
theorem k893b (P : Params) : callRun P 893 (stT1 890 548 27 lamS) (tabOk (Nat.beq 2) 890 548 27 lamS) = some () := by kernel_rfl

end
-- W30
section
theorem i_nx {f : Option Unit} {r : RR} {u : Unit} {G : Prop} (k : f = some u → r = .next → G) (h : nx f r = some u) : G := by cases r <;> first | exact k h rfl | exact dead h
theorem i_rt {f : SV → Option Unit} {r : RR} {u : Unit} {G : Prop} (k : ∀ v, f v = some u → r = .ret v → G) (h : rt f r = some u) : G := by cases r <;> first | exact k _ h rfl | exact dead h
theorem okC_ok {p : St → Option Unit} {o : RR × St} {u : Unit} (h : okC p o = some u) : o.1 = .val (.bool true) ∧ srcG o.2 0 = some () ∧ p o.2 = some () := by
  obtain ⟨o1, o2⟩ := o
  cases o1 <;> try exact dead h
  exact i_onBool (fun b h z => i_gd (fun h hb => i_ob (fun _ h9 hs => by subst z hb; exact ⟨rfl, hs, h9⟩) h) h) h
theorem okPre_ok {p : St → Option Unit} {o : RR × St} {u : Unit} (h : okPre p o = some u) : o.1 = .next ∧ o.2.loc.lookup (Str.ofString "source") = some (.own 0) ∧ srcG o.2 0 = some () ∧ p o.2 = some () :=
  i_nx (fun h e => i_ob (fun v h hl => i_onOwn (fun i h z => i_gd (fun h hi => i_ob (fun _ h9 hs => by subst z; cases Nat.eq_of_beq_eq_true hi; exact ⟨e, hl, hs, h9⟩) h) h) h) h) h
theorem okSuf_ok {o : RR × St} {u : Unit} (h : okSuf o = some u) : o.1 = .ret (.bool true) ∧ srcG o.2 0 = some () :=
  i_rt (fun v h e => i_onBool (fun b h z => i_gd (fun h9 hb => by subst z hb; exact ⟨e, h9⟩) h) h) h
theorem tabOk_ok {k : Nat → Bool} {st : St} {a line col : Nat} {q : Str} {u : Unit} (h : tabOk k a line col q st = some u) : ∃ n, st.objs[1]? = some (.tab 1 a [(line, col, n)]) ∧ st.objs[n]? = some (.code q) ∧ k n = true := by
  refine i_ob (fun o h ho => i_oTab (fun i b es h z => i_l1 (fun e h z2 => i_gd (fun h hc => i_ob (fun o2 h ho2 => i_oCode (fun q' h z3 => i_gd (fun h hq => ?_) h) h) h) h) h) h) h
  subst z z2 z3
  obtain ⟨h1, hc⟩ := Bool.and_eq_true_iff.mp hc
  obtain ⟨h2, hc⟩ := Bool.and_eq_true_iff.mp hc
  obtain ⟨h3, hc⟩ := Bool.and_eq_true_iff.mp hc
  obtain ⟨h4, h5⟩ := Bool.and_eq_true_iff.mp hc
  obtain ⟨l, c, n⟩ := e
  cases Nat.eq_of_beq_eq_true h1
  cases Nat.eq_of_beq_eq_true h2
  cases (show l = line from Nat.eq_of_beq_eq_true h3)
  cases (show c = col from Nat.eq_of_beq_eq_true h4)
  cases of_decide_eq_true hq
  exact ⟨n, ho, ho2, h5⟩
theorem src_new {st : St} {i : Nat} (hi : i < st.objs.length) {loc : List (Str × SV)} {t : Bool} {f : List Nat} {sm : List (List SI × Nat)} (hf : f.contains i = false) : srcG ⟨loc, st.objs.set i (srcV st.bnd.length), st.bnd ++ [bX] ++ [bY], t, f, sm⟩ i = some () := by
  obtain ⟨g1, g2⟩ := get2 (l := st.bnd) (x := bX) (y := bY) rfl
  have e1 : siB ⟨loc, st.objs.set i (srcV st.bnd.length), st.bnd ++ [bX] ++ [bY], t, f, sm⟩ (.at st.bnd.length) = some (some 0, none) := by
    show ob (st.bnd ++ [bX] ++ [bY])[st.bnd.length]? _ = _
    rw [g1]; rfl
  have e2 : siB ⟨loc, st.objs.set i (srcV st.bnd.length), st.bnd ++ [bX] ++ [bY], t, f, sm⟩ (.at (st.bnd.length + 1)) = some (some 0, some 2147483646) := by
    show ob (st.bnd ++ [bX] ++ [bY])[st.bnd.length + 1]? _ = _
    rw [g2]; rfl
  unfold srcG
  rw [show (⟨loc, st.objs.set i (srcV st.bnd.length), st.bnd ++ [bX] ++ [bY], t, f, sm⟩ : St).objs[i]? = some (srcV st.bnd.length) from List.getElem?_set_self hi]
  show ob (siB _ (.at st.bnd.length)) (fun p => ob (siB _ (.at (st.bnd.length + 1))) fun q => _) = _
  rw [e1]
  show ob (siB _ (.at (st.bnd.length + 1))) (fun q => _) = _
  rw [e2]
  show gd (_ && (_ && (_ && !(f.contains i)))) _ = _
  rw [hf]; rfl
noncomputable def outG (st0 : St) (o : RR × St) : RR × St := (.val (.bool true), restore st0 (drawn o.2 0 []))
theorem outG_src {st0 : St} {o : RR × St} {u : Unit} (hf : st0.frz = []) (h : srcG o.2 0 = some u) : srcG (outG st0 o).2 0 = some () :=
  i_ob (fun _ _ e => src_new (st := o.2) (List.getElem?_eq_some_iff.mp e).1 (by rw [hf]; rfl)) h
theorem cut_bnd {st0 : St} {l : List (RR × St)} : bndL (back st0) (excBack st0 (l.map fun o => (RR.ret (.bool true), drawn o.2 0 []))) = some (l.map (outG st0)) := by
  induction l with
  | nil => rfl
  | cons o r ih =>
    show ob (bndL (back st0) (excBack st0 (r.map fun o => (RR.ret (.bool true), drawn o.2 0 [])))) (fun l => some ([outG st0 o] ++ l)) = _
    rw [ih]; rfl
theorem cg_cut (XB : (hd.heap_1 w.params).In base) (TB : Top p loose mean mg mb base) (G : Good (run w.params hookT 400)) {f k : Nat} {st0 : St} {pr : St → Option Unit} (h : cutPre w.params f k st0 pr = some ()) (h' : cutSuf w.params f k st0 = some ()) : ∃ l1 : List (RR × St), (∀ o ∈ l1, srcG o.2 0 = some () ∧ pr o.2 = some ()) ∧ CG 20 f [.own 0] st0 (l1.map (outG st0)) := by
  refine i_ob (fun q h he => i_ob (fun q' h' he' => i_ob (fun l1 k1 e1 => i_ob (fun l2 k2 e2 => ?_) h') h) h') h
  cases he.symm.trans he'
  obtain ⟨sc, body, st⟩ := q
  have k1 := all1_ok k1
  have k2 := all1_ok k2
  refine ⟨l1, fun o ho => ⟨(okPre_ok (k1 o ho)).2.2.1, (okPre_ok (k1 o ho)).2.2.2⟩, fun Γ ρ σ xs s Q X W ha F P => ?_⟩
  have hS := SsG.cut (a := body.take k) (b := body.drop k) (outs := l1.map fun o => (RR.ret (.bool true), drawn o.2 0 [])) (G.Ss _ _ _ _ e1) (fun o ho => (okPre_ok (k1 o ho)).1) fun o ho => ⟨_, ss_src (i := 0) (G.Ss _ _ _ _ e2) (fun q hq => okSuf_ok (k2 q hq)) (okPre_ok (k1 o ho)).2.1 (okPre_ok (k1 o ho)).2.2.1, fun q hq => by
    rw [List.mem_singleton.mp hq]
    exact List.mem_map_of_mem (f := fun o : RR × St => (RR.ret (.bool true), drawn o.2 0 [])) ho⟩
  rw [List.take_append_drop] at hS
  exact wpAny_call (def_okC XB TB he hS cut_bnd W ha F P)
noncomputable def tabR (st : St) (i t a line col : Nat) (q : Str) : Outs := ob st.objs[t]? fun o => oTab o fun t' a' es => gd (Nat.beq t' t && (Nat.beq a' a && !(st.frz.contains t))) (orE (l0 es (okv (.bool true) (tabbed (drawn st i st.loc) t (.tab t a [(line, col, st.objs.length)]) (.code q))))
  (l1 es fun e => gd (Nat.beq e.1 line && (Nat.beq e.2.1 col && !(st.frz.contains e.2.2))) (ob st.objs[e.2.2]? fun o => oCode o fun q' => gd (decide (q' = q)) (okv (.bool true) (drawn st i st.loc)))))
/-- what is known of the rights -/
noncomputable def hookR : Hook := fun lvl a args st => orE (gd (Nat.ble 20 lvl) (l1 args fun v => onOwn v fun i => ob (srcG st i) fun _ => orE (gd (Nat.beq a 874) (okv (.bool true) (drawn st i st.loc))) (orE (gd (Nat.beq a 881) (okv (.bool true) (drawn st i st.loc))) (orE (gd (Nat.beq a 900) (okv (.bool true) (drawn st i st.loc)))
  (orE (gd (Nat.beq a 888) (tabR st i 0 883 534 23 lamP)) (gd (Nat.beq a 893) (tabR st i 1 890 548 27 lamS))))))) (hookT lvl a args st)
noncomputable def Tab0 (f a line col : Nat) (q : Str) : Prop := ∃ l, CG 20 f [.own 0] (stT0 a) l ∧ ∀ o ∈ l, o.1 = .val (.bool true) ∧ srcG o.2 0 = some () ∧ ∃ n, o.2.objs[1]? = some (.tab 1 a [(line, col, n)]) ∧ o.2.objs[n]? = some (.code q)
noncomputable def Tab1 (f a line col : Nat) (q : Str) : Prop := ∃ l, CG 20 f [.own 0] (stT1 a line col q) l ∧ ∀ o ∈ l, o.1 = .val (.bool true) ∧ srcG o.2 0 = some () ∧ o.2.objs[1]? = some (.tab 1 a [(line, col, 2)]) ∧ o.2.objs[2]? = some (.code q)
theorem tabOf {lvl f a line col : Nat} {q : Str} (hl : 20 ≤ lvl) (h0 : Tab0 f a line col q) (h1 : Tab1 f a line col q) {st : St} {i t : Nat} {u : Unit} {outs : List (RR × St)} (hs : srcG st i = some u) (h : tabR st i t a line col q = some outs) : CG lvl f [.own i] st outs := by
  refine i_ob (fun o h ho => i_oTab (fun t' a' es h z => i_gd (fun h9 hc => ?_) h) h) h
  subst z
  obtain ⟨c1, hc⟩ := Bool.and_eq_true_iff.mp hc
  obtain ⟨c2, c3⟩ := Bool.and_eq_true_iff.mp hc
  cases Nat.eq_of_beq_eq_true c1
  cases Nat.eq_of_beq_eq_true c2
  refine i_or (fun h => i_l0 (fun h z => ?_) h) (fun h => i_l1 (fun e h z => i_gd (fun h hc => i_ob (fun o2 h ho2 => i_oCode (fun q' h z2 => i_gd (fun h8 hq => ?_) h) h) h) h) h) h9
  · subst z
    cases h
    obtain ⟨l, hc, hok⟩ := h0
    exact call_tab0 hc hok hl hs ho (bnot c3)
  · obtain ⟨l', c', k⟩ := e
    subst z z2
    obtain ⟨d1, hc⟩ := Bool.and_eq_true_iff.mp hc
    obtain ⟨d2, d3⟩ := Bool.and_eq_true_iff.mp hc
    cases (show l' = line from Nat.eq_of_beq_eq_true d1)
    cases (show c' = col from Nat.eq_of_beq_eq_true d2)
    cases of_decide_eq_true hq
    cases h8
    obtain ⟨l, hc, hok⟩ := h1
    exact call_tab1 hc hok hl hs ho ho2 (bnot c3) (bnot d3)
theorem cut0 (XB : (hd.heap_1 w.params).In base) (TB : Top p loose mean mg mb base) (G : Good (run w.params hookT 400)) {f k a line col : Nat} {q : Str} (h : cutPre w.params f k (stT0 a) (tabOk anyN a line col q) = some ()) (h' : cutSuf w.params f k (stT0 a) = some ()) : Tab0 f a line col q := by
  obtain ⟨l1, k, hc⟩ := cg_cut XB TB G h h'
  refine ⟨_, hc, fun o ho => ?_⟩
  obtain ⟨o', ho', rfl⟩ := List.mem_map.mp ho
  obtain ⟨h1, h2⟩ := k o' ho'
  obtain ⟨n, h3, h4, _⟩ := tabOk_ok h2
  have hn0 : 0 ≠ n := fun e => by
    subst e
    exact i_ob (fun o h e => by rw [h4] at e; cases e; exact dead h) h1
  exact ⟨rfl, outG_src rfl h1, n, (List.getElem?_set_ne (by decide)).trans h3, (List.getElem?_set_ne hn0).trans h4⟩
theorem cut1 (XB : (hd.heap_1 w.params).In base) (TB : Top p loose mean mg mb base) (G : Good (run w.params hookT 400)) {f k a line col : Nat} {q : Str} (h : cutPre w.params f k (stT1 a line col q) (tabOk (Nat.beq 2) a line col q) = some ()) (h' : cutSuf w.params f k (stT1 a line col q) = some ()) : Tab1 f a line col q := by
  obtain ⟨l1, k, hc⟩ := cg_cut XB TB G h h'
  refine ⟨_, hc, fun o ho => ?_⟩
  obtain ⟨o', ho', rfl⟩ := List.mem_map.mp ho
  obtain ⟨h1, h2⟩ := k o' ho'
  obtain ⟨n, h3, h4, h5⟩ := tabOk_ok h2
  cases Nat.eq_of_beq_eq_true h5
  exact ⟨rfl, outG_src rfl h1, (List.getElem?_set_ne (by decide)).trans h3, (List.getElem?_set_ne (by decide)).trans h4⟩
theorem hookR_ok (XB : (hd.heap_1 w.params).In base) (TB : Top p loose mean mg mb base) : HookOk hookR := by
  have HT := hookT_ok XB TB
  have G := run_good XB TB HT 400
  intro lvl a args st outs h
  refine i_or (fun h => i_gd (fun h hl => i_l1 (fun v h z => i_onOwn (fun i h z2 => i_ob (fun u h9 hs => ?_) h) h) h) h) (fun h => HT _ _ _ _ _ h) h
  subst z z2
  have hl := Nat.le_of_ble_eq_true hl
  refine i_or (fun h => i_gd (fun h hq => ?_) h) (fun h => i_or (fun h => i_gd (fun h hq => ?_) h) (fun h => i_or (fun h => i_gd (fun h hq => ?_) h) (fun h => i_or (fun h => i_gd (fun h hq => ?_) h) (fun h => i_gd (fun h hq => ?_) h) h) h) h) h9 <;> cases Nat.eq_of_beq_eq_true hq
  · cases h
    obtain ⟨l1, k, hc⟩ := cg_cut XB TB G (k874 w.params) (k874s w.params)
    refine call_src hc (fun o ho => ?_) hl hs
    obtain ⟨o', ho', rfl⟩ := List.mem_map.mp ho
    exact ⟨rfl, outG_src rfl (k o' ho').1⟩
  · cases h
    exact i_ob (fun l hk e => call_src (CG.of_good G e) (fun o ho => ⟨(okC_ok (all1_ok hk o ho)).1, (okC_ok (all1_ok hk o ho)).2.1⟩) hl hs) (k881 w.params)
  · cases h
    exact i_ob (fun l hk e => call_src (CG.of_good G e) (fun o ho => ⟨(okC_ok (all1_ok hk o ho)).1, (okC_ok (all1_ok hk o ho)).2.1⟩) hl hs) (k900 w.params)
  · exact tabOf hl (cut0 XB TB G (k888a w.params) (k888s w.params)) (cut1 XB TB G (k888b w.params) (k888t w.params)) hs h
  · refine tabOf hl (i_ob (fun l hk e => ⟨l, CG.of_good G e, fun o ho => ?_⟩) (k893a w.params)) (i_ob (fun l hk e => ⟨l, CG.of_good G e, fun o ho => ?_⟩) (k893b w.params)) hs h
    · obtain ⟨h1, h2, h3⟩ := okC_ok (all1_ok hk o ho)
      obtain ⟨n, h4, h5, _⟩ := tabOk_ok h3
      exact ⟨h1, h2, n, h4, h5⟩
    · obtain ⟨h1, h2, h3⟩ := okC_ok (all1_ok hk o ho)
      obtain ⟨n, h4, h5, h6⟩ := tabOk_ok h3
      cases Nat.eq_of_beq_eq_true h6
      exact ⟨h1, h2, h4, h5⟩

end
-- W31
section
/-- some objects, laid aside -/
noncomputable def Hid (mine : List (Addr × Obj)) (h : Heap) : Prop := ∀ p ∈ mine, h.get? p.1 = some p.2 ∧ (∀ es ep, p.2.data ≠ .dict es ep) ∧ p.2.cls ≠ .type "module"
abbrev hidH (mine : List (Addr × Obj)) (h : Heap) : Heap := hideAll h (mine.map (·.1))
section
variable {mine : List (Addr × Obj)} {h : Heap} {K : Frag} {p : Program} {loose : List Str} {mean : ExcName → Option Value} {mg mb : Str → Option Value}
theorem Hid.get {b : Addr} {o : Obj} (H : Hid mine h) (e : h.get? b = some o) (hn : (∃ es ep, o.data = .dict es ep) ∨ o.cls = .type "module") : (hidH mine h).get? b = some o := hideAll_get _ e fun q => by
  obtain ⟨r, hr, rfl⟩ := List.mem_map.mp q
  obtain ⟨h1, h2, h3⟩ := H r hr
  rw [h1] at e
  cases e
  rcases hn with ⟨es, ep, hn⟩ | hn
  · exact h2 _ _ hn
  · exact h3 hn
theorem Hid.ns {a : Addr} {mm : Str → Option Value} (H : Hid mine h) (x : h.Ns a mm) : (hidH mine h).Ns a mm :=
  let ⟨o, es, ep, e, hd, r⟩ := x; ⟨o, es, ep, H.get e (.inl ⟨_, _, hd⟩), hd, r⟩
theorem Hid.inK (X : K.In h) (hK : ∀ q ∈ mine, K.lookup q.1 = none) : K.In (hidH mine h) := fun a o e => hideAll_get _ (X a o e) fun q => by
  obtain ⟨r, hr, e2⟩ := List.mem_map.mp q
  have := hK r hr
  rw [show r.1 = a from e2, e] at this
  cases this
theorem Hid.top (H : Hid mine h) (T : Top p loose mean mg mb h) :
    Top topProg (loose ++ (recsOf p).map (·.name) ++ (litsOf p).map (·.1) ++ (clssOf p loose).map (·.name)) mean mg mb (hidH mine h) where
  g := H.ns T.g
  b := H.ns T.b
  nolimit := let ⟨mc, a, r⟩ := T.nolimit; ⟨mc, H.ns a, r⟩
  nodigits := let ⟨mc, a, r⟩ := T.nodigits; ⟨mc, H.ns a, r⟩
  fn := fun d hd => absurd (show d ∈ ([] : List DefRec) from hd) List.not_mem_nil
  own := fun o ho => absurd (show o ∈ ([] : List OwnSpec) from ho) List.not_mem_nil
  const := fun x d e => by cases (show (none : Option PyData) = some d from e)
  free := fun x h1 h2 _ _ _ => T.free x h1 (fun q => h2 (List.mem_append_left _ (List.mem_append_left _ (List.mem_append_left _ q))))
    (fun q => h2 (List.mem_append_left _ (List.mem_append_left _ (List.mem_append_right _ q)))) (fun q => h2 (List.mem_append_left _ (List.mem_append_right _ q))) fun q => h2 (List.mem_append_right _ q)
  builtins := T.builtins
  tab := fun d hd => absurd (show d ∈ ([] : List DefRec) from hd) List.not_mem_nil
  bmain := let ⟨bm, ob, a1, a2, a3, a4, r⟩ := T.bmain; ⟨bm, ob, a1, a2, H.get a3 (.inr a4), a4, r⟩
  seer := fun e => absurd (show false = true from e) Bool.false_ne_true
end
section
variable {prog : Program} {w : World} {A : Around} {s : Shared} {mine : List (Addr × Obj)} {K : Frag} {R : Result → Shared → Prop} {name qual : Str} {params : Arguments} {body : List Stmt} {scope : Scope} {dV kV doc pm cdv ct oc : Value} {an od : Option Addr} {osl : Array (Option Value)} {f : Addr} {args : Args} {binds : List (Str × Value)}
/-- the outermost def's call -/
theorem code_0 (X₀ : K.In s.heap) (N : ∀ p ∈ mine, s.heap.get? p.1 = some p.2) (hlim : s.heap.NoLimit)
    (ho : K.lookup f = some ⟨oc, od, .func (fnOf name qual params body scope dV kV doc pm an cdv ct), osl⟩) (hcd : codeIn K cdv qual = true) (hroom : A.depth < recursionLimit)
    (hbind : BindsTo s (fnOf name qual params body scope dV kV doc pm an cdv ct) args binds) (hkind : (binds.all fun y => scope.names.lookup y.1 == some .local || scope.names.lookup y.1 == some .cell) = true)
    (hnd : ((cellsFrom 0 scope.names []).map (·.1)).Nodup)
    (h : ∀ l h₁ tk cells, Fr (hidH mine s.heap) l h₁ (bindL (envOfC qual scope l f cdv).kindOf binds fun _ => none) → News (hidH mine s.heap) l h₁ (cells ++ mine) →
      CellsAre (bindC (envOfC qual scope l f cdv).kindOf binds fun _ => none) (cellsFrom (l + 1) scope.names []) cells → (∀ q ∈ mine, q.1 < l) →
      wpAny (model prog w) (A.deeper (envOfC qual scope l f cdv)) (execs body (envOfC qual scope l f cdv))
        (fun fl s' => R (.ok (.ret (match fl with | .ret v => v | _ => .none))) s')
        (fun e s' => wpAny (model prog w) (A.deeper (envOfC qual scope l f cdv)) (leaving (envOfC qual scope l f cdv) e) (fun _ s'' => R (.error e) s'') (fun e' s'' => R (.error e') s'') s')
        { s with heap := h₁, toks := tk })
    (hco : scope.isCoroutine = false) (hgen : scope.isGenerator = false) (hk : scope.kind = .function) : codeAny (model prog w) A (.call (.ref f) args) R s := by
  refine codeAny_call_function hroom (X₀ _ _ ho) rfl hco hgen rfl (codeRec_of X₀ hcd) (hbind _ _ _ _ ?_)
  refine wpAny_newFunctionEnv_cells hk (kindsX hkind _) fun env' he s' x => ?_
  subst he
  refine ⟨hlim.keeps x.toInCall.keep, codeAny_func ?_⟩
  obtain ⟨h₁, tk, rfl, _⟩ := x.done
  have hk₁ := x.toInCall.keep
  obtain ⟨cells, NC, Y⟩ := Cl.news (h₀ := s.heap) (Nat.le_refl _) fun n c hm => ⟨x.cell n c (lookup_of_mem_nodup (cellsFrom_names scope.names 0 (s.heap.objs.size + 1) [] [] rfl ▸ hnd) hm), x.above n c hm⟩
  refine wpAny_mono (h _ h₁ tk cells ⟨x.toInCall.ns, fun b o e => hk₁ b o (of_hideAll _ e), Nat.le_of_eq (hideAll_size _ _)⟩ (fun q hq => ?_) Y (fun q hq => Heap.lt_size (N q hq))) (fun fl s' hl => hl) fun _ _ y => y
  rcases List.mem_append.mp hq with hq | hq
  · refine ⟨(NC q hq).1, (NC q hq).2.1, ?_⟩
    cases e : (hidH mine s.heap).get? q.1 with
    | none => rfl
    | some o => have := of_hideAll _ e; rw [(NC q hq).2.2] at this; cases this
  · exact ⟨hk₁ _ _ (N q hq), Nat.ne_of_lt (Heap.lt_size (N q hq)), hideAll_none _ (List.mem_map_of_mem hq)⟩
end

noncomputable def stL : St := ⟨[], [.tab 0 883 [], .tab 1 890 [], .numl none], [], false, [2], []⟩
noncomputable def isTab (st : St) (i a : Nat) : Option Unit := ob st.objs[i]? fun o => oTab o fun j b _ => gd (Nat.beq j i && Nat.beq b a) (some ())
noncomputable def okL (o : RR × St) : Option Unit := rt (fun v => onBool v fun b => gd b (ob (isTab o.2 0 883) fun _ => isTab o.2 1 890)) o.1
noncomputable def lawRun (P : Params) : Option Unit := ob (enter P 31 905 [.own 2] stL) fun q => ob (run P hookR 400 (.Ss q.1 q.2.1) q.2.2) (all1 okL)
set_option maxRecDepth 1000000 in
theorem k905 (P : Params) : lawRun P = some () := by kernel_rfl
theorem isTab_ok {st : St} {i a : Nat} {u : Unit} (h : isTab st i a = some u) : ∃ es, st.objs[i]? = some (.tab i a es) :=
  i_ob (fun o h ho => i_oTab (fun j b es h z => i_gd (fun _ hc => by
    subst z
    obtain ⟨h1, h2⟩ := Bool.and_eq_true_iff.mp hc
    cases Nat.eq_of_beq_eq_true h1
    cases Nat.eq_of_beq_eq_true h2
    exact ⟨es, ho⟩) h) h) h
theorem i_enter {P : Params} {lvl f : Nat} {args : List SV} {st st' : St} {sc' : SC} {body : List Stmt} {G : Prop} (he : enter P (lvl + 1) f args st = some (sc', body, st')) (k : ∀ fd b, FnR P f body b fd → bindV P fd args = some b → sc' = fnSC fd lvl st.objs.length → st' = fnSt fd.scope b st → G) : G := by
  refine i_ob (fun o he1 ho => i_dFunc (fun fd he2 hfd => i_ob (fun body' he3 hbody => i_ob (fun b he4 hbv => i_gd (fun he5 hok => ?_) he4) he3) he2) he1) he
  cases he5
  exact k fd b (okFn_ok ho hfd (bStmts_ok hbody) hok) hbv rfl rfl
/-- the law's call, at the outermost -/
theorem law_main : MainP wb := by
  intro s p' loose' mean' mg' mb' R l vs n hbase X T h1 h2 hl hKl hz hv hK1 hK2 hR
  show codeAny (model prg w) callerA (.call (.ref 905) ⟨[.ref l], []⟩) R s
  have hbase : base = hideAll s.heap [883, 890, l] := hbase
  have X : (hd.heap_1 w.params).In s.heap := X
  have hl1 : l ≠ 883 := fun e => by rw [e, h1] at hl; cases hl
  have hl2 : l ≠ 890 := fun e => by rw [e, h2] at hl; cases hl
  obtain ⟨sobj, hso⟩ : ∃ o : Obj, o = { cls := .type "list", data := .seq vs.toArray n } := ⟨_, rfl⟩
  rw [← hso] at hl
  obtain ⟨mine, hmine⟩ : ∃ m : List (Addr × Obj), m = [(883, tabObj #[]), (890, tabObj #[]), (l, sobj)] := ⟨_, rfl⟩
  have hmem : ∀ q ∈ mine, q = (883, tabObj #[]) ∨ q = (890, tabObj #[]) ∨ q = (l, sobj) := fun q hq => by
    rw [hmine] at hq
    exact (List.mem_cons.mp hq).imp id fun hq => (List.mem_cons.mp hq).imp id fun hq => List.mem_singleton.mp hq
  have H : Hid mine s.heap := fun q hq => by
    rcases hmem q hq with rfl | rfl | rfl
    · exact ⟨h1, fun _ _ e => (nomatch e), fun e => nomatch e⟩
    · exact ⟨h2, fun _ _ e => (nomatch e), fun e => nomatch e⟩
    · exact ⟨hl, fun _ _ e => (by rw [hso] at e; cases e), fun e => by rw [hso] at e; exact absurd (Value.type.inj (show Value.type "list" = Value.type "module" from e)) (by decide)⟩
  have hb2 : hidH mine s.heap = base := by rw [hbase, hmine]; rfl
  have XB : (hd.heap_1 w.params).In base := hb2 ▸ Hid.inK X fun q hq => by rcases hmem q hq with rfl | rfl | rfl <;> assumption
  have TB : Top p loose mean mg mb base := by
    have T' := hb2 ▸ H.top T
    exact Classical.byContradiction fun hn => hk2 (c := tp) (P := fun t : TP => ¬ Top t.p t.loose t.mean t.mg t.mb base) _ rfl hn ⟨_, _, _, _, _⟩ T'
  have G := run_good XB TB (hookR_ok XB TB) 400
  refine i_ob (fun q hk he => i_ob (fun lo hok hrun => ?_) hk) (k905 w.params)
  obtain ⟨sc', body, st'⟩ := q
  have hok := all1_ok hok
  have hS : SsG sc' body st' lo := G.Ss _ _ _ _ hrun
  have ha : F2 (VR [883, 890, l] []) [.own 2] [.ref l] := .cons ⟨l, rfl, rfl⟩ .nil
  refine i_enter (lvl := 30) he fun fd b hfn hbv e1 e2 => ?_
  subst e1 e2
  obtain ⟨binds, hbind, hbb⟩ := bindsTo_ok X hbv ha
  cases hfn
  rename_i qual params scope dV cdv oc od osl name kV doc pm an ct ho k1 k2 k6 k7 k8 k9
  refine code_0 (K := hd.heap_1 w.params) (mine := mine) X (fun q hq => (H q hq).1) T.nolimit ho k6 (by decide) hbind (kinds_same hbb k1) (nodupS_ok k2) (fun l' h₁ tk cells F' N' Y lt => ?_) k7 k8 k9
  rw [hb2] at F' N'
  have hname : (cellsFrom (l' + 1) scope.names []).map (·.1) = cellNames scope.names := cellsFrom_names _ _ _ _ _ rfl
  have haddr : cells.map (·.1) = (cellsFrom (l' + 1) scope.names []).map (·.2) := cells_addrs Y
  obtain ⟨hnd, hab⟩ := cellsFrom_addr (names := scope.names) (n := l' + 1) (acc := []) .nil (fun _ h => nomatch h)
  have habove : ∀ a ∈ cells.map (·.1), l' < a := fun a hm => by
    rw [haddr] at hm
    obtain ⟨q, hq, rfl⟩ := List.mem_map.mp hm
    exact (hab q hq).elim (fun h => nomatch h) fun h => h
  have hpre : [883, 890, l] <+: [883, 890, l] ++ cells.map (·.1) := List.prefix_append _ _
  have hbb' : F2 (NR (VR ([883, 890, l] ++ cells.map (·.1)) [])) b binds := hbb.mono fun _ _ y => ⟨y.1, y.2.mono hpre (List.prefix_refl _)⟩
  have hobj := cells_or (lk := fun n => (cellL scope b []).lookup n) (cellL_ok (kindOf := (envOfC qual scope l' 905 cdv).kindOf) (fun _ => rfl) hbb' fun x => .none) Y
  have hzip : ([883, 890, l] ++ cells.map (·.1)).zip ([tabObj #[], tabObj #[], sobj] ++ cells.map (·.2)) = mine ++ cells := by
    rw [List.zip_append (show ([883, 890, l] : List Addr).length = ([tabObj #[], tabObj #[], sobj] : List Obj).length from rfl), zip_unzip, hmine]; rfl
  have FX' : FSx ⟨qual, scope, l', 905, cdv, cellsFrom (l' + 1) scope.names [], [], callerA, callerA.deeper (envOfC qual scope l' 905 cdv), base, [], none, [(2, sobj)], true⟩ (fnSt scope b stL) ([883, 890, l] ++ cells.map (·.1)) [] h₁ base (bindL (envOfC qual scope l' 905 cdv).kindOf binds fun _ => none) ([tabObj #[], tabObj #[], sobj] ++ cells.map (·.2)) := {
    T := .refl
    T0 := fun _ => rfl
    B := below_caller _
    D := fun b hb => nomatch hb
    F := F'
    N := fun q hq => N' q (by
      rw [hzip] at hq
      exact (List.mem_append.mp hq).elim (fun h => (List.mem_append.mp h).elim (List.mem_append_right _) (List.mem_append_left _)) fun h => nomatch h)
    O := F2.append (.cons ⟨rfl, #[], rfl, rfl⟩ (.cons ⟨rfl, #[], rfl, rfl⟩ (.cons ⟨vs, n, hso, hz, hv, fun i e => nomatch e⟩ .nil))) (by rw [← hname]; exact hobj)
    len := by rw [List.length_append, List.length_append, List.length_map, List.length_map]; rfl
    M := locL_ok (fun _ => rfl) hbb' fun x v e => nomatch e
    asc := List.nodup_append.mpr ⟨by simp [Ne.symm hl1, Ne.symm hl2], by rw [haddr]; exact hnd, fun a ha b hb e => by
      have hbel : a < l' := by
        rw [hmine] at lt
        simp only [List.mem_cons, List.not_mem_nil, or_false] at ha
        rcases ha with rfl | rfl | rfl
        · exact lt (883, tabObj #[]) (.head _)
        · exact lt (890, tabObj #[]) (.tail _ (.head _))
        · exact lt (a, sobj) (.tail _ (.tail _ (.head _)))
      exact absurd hbel (Nat.lt_asymm (e ▸ habove b hb))⟩
    ap := fun q hq => nomatch hq
    bd := .nil
    sm := fun q hq => nomatch hq
    Mp := fun m₀ e => nomatch e
    Z := fun q hq => by
      rw [List.mem_singleton.mp hq]
      exact ⟨rfl, .inr (.head _)⟩ }
  refine hS _ ([883, 890, l] ++ cells.map (·.1)) [] (sat s h₁ tk) _ _ { frames := Around.frames_deeper rfl, hand := rfl, kind := k9, room := by show callerA.depth + 1 + 4 * 30 + 8 < _; decide, units := by show callerA.units + 3 + 30 * 30 + 200 < _; decide } ⟨rfl, rfl, start_cells rfl Y, rfl, .inr rfl, rfl⟩ (fun _ => PassesOwn.leaving) rfl ⟨_, _, _, FX'⟩ fun o hol ρ1 σ1 h2' tk2 hr hs => ?_
  refine i_rt (fun v e o1 => i_onBool (fun bv e z => i_gd (fun e z2 => i_ob (fun _ o3 o2 => ?_) e) e) e) (hok o hol)
  subst z z2
  refine ⟨fun fl hfl FF => ?_, fun C e hC _ => ?_⟩
  · rw [o1] at hfl
    obtain ⟨yv, rfl, hy⟩ := hfl
    cases (show yv = .bool true from hy)
    obtain ⟨g2, m2, os2, F2⟩ := FF
    obtain ⟨es1, he1⟩ := isTab_ok o2
    obtain ⟨es2, he2⟩ := isTab_ok o3
    have p0 : ρ1[0]? = some 883 := pre_get (hpre.trans hr) rfl
    have p1 : ρ1[1]? = some 890 := pre_get (hpre.trans hr) rfl
    have p2 : ρ1[2]? = some l := pre_get (hpre.trans hr) rfl
    obtain ⟨ob1, _, ⟨_, ps1, rfl, _⟩, hm1⟩ := F2.at p0 he1
    obtain ⟨ob2, _, ⟨_, ps2, rfl, _⟩, hm2⟩ := F2.at p1 he2
    have hlkeep : h2'.get? l = some sobj := (F2.N _ (List.mem_append_left _ (zip_get p2 (F2.Z (2, sobj) (.head _)).1))).1
    refine hR h2' tk2 (fun b o hb1 hb2' e => ?_) ⟨ps1, (F2.N _ hm1).1⟩ ⟨ps2, (F2.N _ hm2).1⟩
    by_cases hbl : b = l
    · subst hbl
      rw [hl] at e; cases e
      exact hlkeep
    · refine F2.F.keep b o (F2.T.other b o (show base.get? b = some o from hbase ▸ hideAll_get _ e ?_) (fun q => nomatch q))
      intro q
      rcases List.mem_cons.mp q with q | q
      · exact hb1 q
      · rcases List.mem_cons.mp q with q | q
        · exact hb2' q
        · exact hbl (List.mem_singleton.mp q)
  · rw [o1] at hC; cases hC

end
end
section
set_option maxHeartbeats 4000000
theorem law_ok {w : World} {s : Shared} {p : Program} {loose : List Str} {mean : ExcName → Option Value} {mg mb : Str → Option Value} {R : Result → Shared → Prop} (X : (hd.heap_1 w.params).In s.heap) (T : Top p loose mean mg mb s.heap) (h1 : s.heap.get? 883 = some (tabObj #[])) (h2 : s.heap.get? 890 = some (tabObj #[])) {l : Addr} {vs : List Value} {n : Nat} (hl : s.heap.get? l = some { cls := .type "list", data := .seq vs.toArray n }) (hKl : (hd.heap_1 w.params).lookup l = none) (hz : vs.length ≤ 63) (hv : ∀ v ∈ vs, ∃ k t, v = .int k t)
    (hK1 : (hd.heap_1 w.params).lookup 883 = none) (hK2 : (hd.heap_1 w.params).lookup 890 = none)
    (hR : ∀ h' tk, (∀ b o, b ≠ 883 → b ≠ 890 → s.heap.get? b = some o → h'.get? b = some o) → (∃ ps, h'.get? 883 = some (tabObj ps)) → (∃ ps, h'.get? 890 = some (tabObj ps)) → R (.ok (.ret (.bool true))) { s with heap := h', toks := tk }) :
    codeAny (model PySem.Challenge.rw_pq1168_01.row.toRowW.prog w) callerA (.call (.ref 905) ⟨[.ref l], []⟩) R s := by
  have e : PySem.Challenge.rw_pq1168_01.row.toRowW.prog = prg := by unfold prg; rfl
  rw [e]
  exact hk2 (c := wb) (P := MainP) _ rfl law_main ⟨w, hideAll s.heap [883, 890, l]⟩ s p loose mean mg mb R l vs n rfl X T h1 h2 hl hKl hz hv hK1 hK2 hR
theorem list_free {K : Frag} {h : Heap} {a : Addr} {o : Obj} (X : K.In h) (e : K.all (fun q => match q.2.cls with | .type "list" => false | _ => true) = true) (ha : h.get? a = some o) (hc : o.cls = .type "list") : K.lookup a = none := by
  cases hk : K.lookup a with
  | none => rfl
  | some o' =>
    have := X _ _ hk
    rw [ha] at this
    cases this
    have := List.all_eq_true.mp e _ (mem_of_lookupK hk)
    dsimp only at this
    rw [hc] at this
    cases this
theorem noLists (P : Params) : (hd.heap_1 P).all (fun q => match q.2.cls with | .type "list" => false | _ => true) = true := by kernel_rfl
theorem hK883 (P : Params) : (hd.heap_1 P).lookup 883 = none := by kernel_rfl
theorem hK890 (P : Params) : (hd.heap_1 P).lookup 890 = none := by kernel_rfl
theorem nsLaw (P : Params) : nsIn (hd.heap_1 P) mainGlobals (Str.ofString "law") = some (some (.ref 905)) := by kernel_rfl
theorem hd887 (P : Params) : codeHdIn (hd.heap_1 P) 887 883 = true := by kernel_rfl
theorem hd892 (P : Params) : codeHdIn (hd.heap_1 P) 892 890 = true := by kernel_rfl
theorem ints_are : ∀ {vs : List Value} {ns : List Int}, IntsAre vs ns → vs.length = ns.length ∧ ∀ v ∈ vs, ∃ k t, v = .int k t := by
  intro vs ns h
  induction h with
  | nil => exact ⟨rfl, fun _ h => nomatch h⟩
  | cons n t _ ih => exact ⟨congrArg Nat.succ ih.1, fun v hv => by
      rcases List.mem_cons.mp hv with rfl | hv
      · exact ⟨n, t, rfl⟩
      · exact ih.2 v hv⟩
theorem fin5 : PySem.Challenge.rw_pq1168_01.Holds := by
  refine hd ⟨left, ?_⟩
  intro w s₀ s₁ mg mb G Y fa o pm cd doc dV kV ho hd' hcd hD hmg hg args vals as hpre hlay hrd hwl hlo
  have KX := km_in_of Y
  have hT8 := km_tabs_of Y
  refine Ground.open G ?_
  intro T B D TE TW
  have hfa : fa = 905 := by
    have := mg_of KX T.g (nsLaw w.params)
    rw [show mg (Str.ofString "law") = some (.ref fa) from hmg] at this
    cases this; rfl
  subst hfa
  clear ho hd' hcd hD hmg G D TE TW B
  wrow_args hpre hlay hrd hwl hlo
  rename_i l vs as' hL ra w1 r0 hI hr hc1 hc2
  have hT9 : TabsAt [(887, 883), (892, 890)] s₁.heap := List.forall_mem_cons.mpr ⟨⟨codeHd_of_K KX (hd887 _), hT8 _ (by decide)⟩, List.forall_mem_cons.mpr ⟨⟨codeHd_of_K KX (hd892 _), hT8 _ (by decide)⟩, fun _ h => nomatch h⟩⟩
  refine enter_call (kn_post hT9 (fun _ _ => rfl) ?_)
  obtain ⟨ob, hob, hcls, n, hdat⟩ := hL
  obtain ⟨hlen, hint⟩ := ints_are hI
  have key : ob = { cls := .type "list", data := .seq vs.toArray 0 } := by
    cases (show Well w.params s₁.heap (Value.ref l) (.list _) from w1) with
    | list he _ =>
      rw [hob] at he
      cases he
      cases hdat
      rfl
  subst key
  refine law_ok (p := qQ) KX T (hT8 _ (by decide)) (hT8 _ (by decide)) hob (list_free KX (noLists _) hob hcls) (by rw [hlen]; omega) hint (hK883 _) (hK890 _) fun h' tk hk g1 g2 => ⟨⟨?_, ?_, ?_, ?_⟩, g1, g2, trivial⟩
  · exact .inl ⟨_, .bool true, [], rfl, fun _ => rfl, .bool _, by wrow_post, fun _ => ⟨.nil, fun _ h => nomatch h⟩⟩
  · intro b o e
    refine hk b o (fun q => ?_) (fun q => ?_) (of_hideAll _ e)
    · subst q
      have z : (ghostOf s₁.heap [(887, 883), (892, 890)]).get? 883 = none := hideAll_none _ (.head _)
      cases z.symm.trans e
    · subst q
      have z : (ghostOf s₁.heap [(887, 883), (892, 890)]).get? 890 = none := hideAll_none _ (.tail _ (.head _))
      cases z.symm.trans e
  · rfl
  · exact hg
end
end Mine
theorem PySem.Challenge.cw_pq1168_01_holds : PySem.Challenge.rw_pq1168_01.Holds :=
  Mine.fin5
