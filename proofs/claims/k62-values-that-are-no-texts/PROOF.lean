import PyProof.Rows.All
import KE.OsRunLaw
import KE.KNestM
import Wide.All
import OpenK.AllK
import Wide.FinOn
import HandS.ForMost
import HandS.Flow
import HandS.Style
import HandS.Conv
import HandS.Exc
import KE.KExcIs
import HandS.Lambda
import HandS.Zip
import HandS.TupAny
import HandS.Wide
import HandS.TryOnly
import HandS.WordsExc
import HandS.ExcInit
import PyProof.ReprReads
import PyProof.ReprRoads
import PyProof.Rows.RuleB_pow
import PyProof.StrOps2
import HandS.IsInst
import HandS.SortInts
import PyProof.AutoSeq1
import KE.KRevSl
import HandS.More
import HandS.Text
import HandS.Codes
import HandS.SetFor
import HandS.Strs
import HandS.Set
import PyProof.Rows.SetFrom
import PyProof.Rows.IntBool
import PyProof.Rows.StrStep
import PyProof.NeKinds
import HandS.ExcValue
import PyProof.Rows.SortShellAny
import PyProof.Rows.StrMeet
import HandS.TupMul
import PyProof.Rows.StrInSeq3
import HandS.ListItems
import HandS.DictComp
import HandS.SortKw
import HandS.WordsDict
import KE.DataMinMax
import KE.GoesEnum
import PyProof.DictUpdate
import KE.KDictList
import KE.KDictPairs
import PyProof.SeqIndex
import HandS.SortOrd
import PyProof.Rows.SortKeyStr
import HandS.TupLe
import HandS.Deep
import PyProof.Rows.SeqMore
import KE.SortKeyHeap
import HandS.Iter
import HandS.EndBits
import HandS.Defaults
import KE.GoesMore
import HandS.Call
import HandS.WideBits
import PyProof.SumWalkG
import HandS.Replace
import PyProof.Rows.ReprOcc
import PyProof.Rows.StrSplitJoin
import PyProof.Rows.StrItems
import PyProof.Rows.StrPins
import HandS.ReplaceList
import PySem.Challenge.RW_keyedmoves_k62_values_that_are_no_texts
set_option Elab.async false
set_option linter.all false
set_option autoImplicit false
set_option maxRecDepth 100000
set_option maxHeartbeats 4000000
namespace HR2
open HeadRun PySem PySem.W PySem.Calls PyProof.Rows
theorem one_rowM {p q : Program} {loose : List PySem.Str} {Xt : Shared → Bool} {K : Params → Frag} {as : List Addr} {ek : ∀ P, as = (K P).map (·.1)} {ts : List Addr} {N M : Nat} (row : String)
    (e : opening p = plainProg p.main.scope.names) (hN : Nat.ble 600 N = true) (f : ∀ s, fenceModules? p s = some s) (le : Nat.ble M N = true)
    (run : ∀ (b : Bool) (w : World) (os : OsState),
      (endF (stepQ (denQ tabQ) p (w.withFollow row b)) M p (w.withFollow row b) os).map
        (fun s => (looksF p (boot_heap (w.withFollow row b).params) s.abs,
          seenQ q loose (importedModules p.main.body) Xt s.abs, (as.map (getT s), ts.map (getT s)))) =
      some (true, openGood q loose, ((K (w.withFollow row b).params).map fun x => some x.2, ts.map fun _ => some (tabObj #[])))) :
    LeftO p q loose Xt (Hook.obs (kmHook K as ek ts)) (Hook.val (kmHook K as ek ts)) N true :=
  HeadRun.left_one (M := M) e hN f le fun w os => by
    have z := run (w.params.followText row) w os
    rw [World.withFollow_self] at z
    have eo : (fun s : SharedT => (looksF p (boot_heap w.params) s.abs, seenQ q loose (importedModules p.main.body) Xt s.abs, (as.map (getT s), ts.map (getT s)))) =
        fun s => (looksF p (boot_heap w.params) s.abs, seenQ q loose (importedModules p.main.body) Xt s.abs, Hook.obs (kmHook K as ek ts) s.abs) := by
      funext s
      have q1 : as.map (getT s) = as.map s.abs.heap.get? := List.map_congr_left fun a _ => getT_eq s a
      have q2 : ts.map (getT s) = ts.map s.abs.heap.get? := List.map_congr_left fun a _ => getT_eq s a
      rw [q1, q2]
      rfl
    rw [eo] at z
    simp only [endQ_eq, seenQ_eq]
    exact z
/-- some statements of a body -/
def pick : List Bool → List Stmt → List Stmt
  | true :: bs, s :: ss => s :: pick bs ss
  | false :: bs, _ :: ss => pick bs ss
  | _, _ => []
/-- the program with these statements alone -/
def viewOf (p : Program) (bs : List Bool) : Program := { p with main := { p.main with body := pick bs p.main.body } }
theorem openM {r : OpenRow} {q : Program} {loose : List PySem.Str} {K : Params → Frag} {as : List Addr} {ek : ∀ P, as = (K P).map (·.1)} {ts : List Addr} {d : DefRec} {kwd : List (PySem.Str × PySem.Expr)} {N M : Nat} (row : String)
    (e : opening r.prog = plainProg r.prog.main.scope.names) (hN : Nat.ble 600 N = true) (f : ∀ s, fenceModules? r.prog s = some s) (le : Nat.ble M N = true)
    (run : ∀ (b : Bool) (w : World) (os : OsState),
      (endF (stepQ (denQ tabQ) r.prog (w.withFollow row b)) M r.prog (w.withFollow row b) os).map
        (fun s => (looksF r.prog (boot_heap (w.withFollow row b).params) s.abs,
          seenQ q loose (importedModules r.prog.main.body) (fun s => xlAt q [] s && recOk (RowW.records r.toRowW) s) s.abs, (as.map (getT s), ts.map (getT s)))) =
      some (true, openGood q loose, ((K (w.withFollow row b).params).map fun x => some x.2, ts.map fun _ => some (tabObj #[]))))
    (hdef : defOf q r.name = some (d, kwd)) (hp : r.prog.theDef r.name = some (d.params, d.body, d.scope)) (hk : kwWritten? d.params.kwonlyargs d.params.kw_defaults = some kwd)
    (hwr : (!r.writes || r.records.isEmpty) = true) (k1 : r.wellSaid = true) (ok : (chainsOk q && opensWell r.prog && (frees r.toRowW && r.within.isEmpty)) = true) (hb : r.prog.bare)
    (hw : r.toRowW.promised) (hc : WalkO q loose (XL q []) (Hook.says (kmHook K as ek ts)) r.toRowW d kwd fun f vs => PySem.call f vs) : r.Holds :=
  holds_open (N := N) (Xt := fun s => xlAt q [] s && recOk (RowW.records r.toRowW) s) (one_rowM row e hN f le run) (Hook.of _) (Hook.keeps _) (fun s h => xl_of s (Bool.and_eq_true_iff.mp h).1) XL.keeps hdef hp hk
    (fun s h => recFacts_of (Bool.and_eq_true_iff.mp h).2) hwr k1 ok hb hw hc
/-- behind the top's run (the world's row answered by b), f gives a -/
abbrev Ends (r : OpenRow) (M : Nat) (row : String) (b : Bool) {α : Type} (f : SharedT → α) (a : World → α) : Prop :=
  ∀ (w : World) (os : OsState), (endF (stepQ (denQ tabQ) r.prog (w.withFollow row b)) M r.prog (w.withFollow row b) os).map f = some (a (w.withFollow row b))
noncomputable abbrev sq (r : OpenRow) (q : Program) (loose : List PySem.Str) (s : SharedT) := seenQ q loose (importedModules r.prog.main.body) (fun s => xlAt q [] s && recOk (RowW.records r.toRowW) s) s.abs
theorem all_ends {r : OpenRow} {q : Program} {loose : List PySem.Str} {row : String} {b : Bool} {M : Nat} {β : Type} {h : SharedT → β} {k : World → β} {w : World} {os : OsState}
    (g1 : ∀ (w : World) (os : OsState), (endF (stepQ (denQ tabQ) r.prog (w.withFollow row b)) M r.prog (w.withFollow row b) os).map (fun s => (looksF r.prog (boot_heap (w.withFollow row b).params) s.abs, h s, (sq r q loose s).2.1)) = some (true, k (w.withFollow row b), bltViewBooted))
    (g2 : Ends r M row b (fun s => (sq r q loose s).1) fun _ => expectedOf q)
    (g3 : Ends r M row b (fun s => ((sq r q loose s).2.2.1, (sq r q loose s).2.2.2.1)) fun _ => (true, true))
    (g4 : Ends r M row b (fun s => ((sq r q loose s).2.2.2.2.1, (sq r q loose s).2.2.2.2.2.1)) fun _ => (pinGoodD (drecsOf q), plainGoodE q (looseW q loose)))
    (g5 : Ends r M row b (fun s => (sq r q loose s).2.2.2.2.2.2) fun _ => (plainGoodD q loose, wideGood q, clsGoodW q loose)) :
    (endF (stepQ (denQ tabQ) r.prog (w.withFollow row b)) M r.prog (w.withFollow row b) os).map (fun s => (looksF r.prog (boot_heap (w.withFollow row b).params) s.abs, sq r q loose s, h s)) = some (true, openGood q loose, k (w.withFollow row b)) := by
  have h1 := g1 w os
  have h2 := g2 w os
  have h3 := g3 w os
  have h4 := g4 w os
  have h5 := g5 w os
  cases e : endF (stepQ (denQ tabQ) r.prog (w.withFollow row b)) M r.prog (w.withFollow row b) os with
  | none => rw [e] at h1; cases h1
  | some s =>
    rw [e] at h1 h2 h3 h4 h5
    have z1 := Option.some.inj h1
    have z2 := Option.some.inj h2
    have z3 := Option.some.inj h3
    have z4 := Option.some.inj h4
    have z5 := Option.some.inj h5
    obtain ⟨a1, a2⟩ := Prod.mk.inj z1
    obtain ⟨a2, a3⟩ := Prod.mk.inj a2
    obtain ⟨b1, b2⟩ := Prod.mk.inj z3
    obtain ⟨c1, c2⟩ := Prod.mk.inj z4
    refine congrArg some (Prod.ext a1 (Prod.ext (Prod.ext z2 (Prod.ext a3 (Prod.ext b1 (Prod.ext b2 (Prod.ext c1 (Prod.ext c2 z5)))))) a2))
theorem openM4 {r : OpenRow} {q : Program} {loose : List PySem.Str} {K : Params → Frag} {as : List Addr} {ek : ∀ P, as = (K P).map (·.1)} {ts : List Addr} {d : DefRec} {kwd : List (PySem.Str × PySem.Expr)} {N M : Nat} (row : String)
    (e : opening r.prog = plainProg r.prog.main.scope.names) (hN : Nat.ble 600 N = true) (f : ∀ s, fenceModules? r.prog s = some s) (le : Nat.ble M N = true)
    (g1 : ∀ (b : Bool) (w : World) (os : OsState), (endF (stepQ (denQ tabQ) r.prog (w.withFollow row b)) M r.prog (w.withFollow row b) os).map (fun s => (looksF r.prog (boot_heap (w.withFollow row b).params) s.abs, (as.map (getT s), ts.map (getT s)), (sq r q loose s).2.1)) = some (true, ((K (w.withFollow row b).params).map fun x => some x.2, ts.map fun _ => some (tabObj #[])), bltViewBooted))
    (g2 : ∀ b, Ends r M row b (fun s => (sq r q loose s).1) fun _ => expectedOf q)
    (g3 : ∀ b, Ends r M row b (fun s => ((sq r q loose s).2.2.1, (sq r q loose s).2.2.2.1)) fun _ => (true, true))
    (g4 : ∀ b, Ends r M row b (fun s => ((sq r q loose s).2.2.2.2.1, (sq r q loose s).2.2.2.2.2.1)) fun _ => (pinGoodD (drecsOf q), plainGoodE q (looseW q loose)))
    (g5 : ∀ b, Ends r M row b (fun s => (sq r q loose s).2.2.2.2.2.2) fun _ => (plainGoodD q loose, wideGood q, clsGoodW q loose))
    (hdef : defOf q r.name = some (d, kwd)) (hp : r.prog.theDef r.name = some (d.params, d.body, d.scope)) (hk : kwWritten? d.params.kwonlyargs d.params.kw_defaults = some kwd)
    (hwr : (!r.writes || r.records.isEmpty) = true) (k1 : r.wellSaid = true) (ok : (chainsOk q && opensWell r.prog && (frees r.toRowW && r.within.isEmpty)) = true) (hb : r.prog.bare)
    (hw : r.toRowW.promised) (hc : WalkO q loose (XL q []) (Hook.says (kmHook K as ek ts)) r.toRowW d kwd fun f vs => PySem.call f vs) : r.Holds :=
  openM row e hN f le (fun b w os => all_ends (h := fun s => (as.map (getT s), ts.map (getT s))) (k := fun w => ((K w.params).map fun x => some x.2, ts.map fun _ => some (tabObj #[]))) (g1 b) (g2 b) (g3 b) (g4 b) (g5 b)) hdef hp hk hwr k1 ok hb hw hc
end HR2
section
open PySem PySem.W PyProof.Rows
def LK.head_bits : List Bool := [true, false, true, true, true, true, true, true, true, true, true, true, true, true, true, false, true, true, true, true, true, true, true, true, true, true, true, true, true, true, true, false, true, true, true, true, true, true, true, true, true, true, true, true, true, false, true, true, true, true, true, true, true, true, true, true, true, true, true, false, true, true, true, false, true, true, true, false, true, true, true, true, true, true, true, true, true, true, false, true, true, true, false, false, false, true, false, true, true, true, true, true, true, true, false, true, true, true, true, true, true, true]
def LK.head_loose : List PySem.Str := ["SIZES", "best_staying", "cheapest_patch", "View", "KEY_COUNTS"]
def LK.head_view : Program := HR2.viewOf PySem.Challenge.pw_keyedmoves_k62_values_that_are_no_texts LK.head_bits
def LK.head_as : List Addr := [2, 3, 15, 17, 18, 20, 21, 22, 29, 30, 31, 32, 35, 42, 44, 45, 47, 48, 49, 50, 51, 54, 61, 62, 63, 66, 73, 75, 76, 78, 79, 80, 81, 82, 85, 92, 94, 95, 97, 98, 99, 100, 101, 104, 111, 113, 114, 116, 117, 118, 119, 120, 123, 130, 132, 133, 135, 136, 137, 138, 139, 142, 149, 151, 152, 154, 155, 156, 157, 158, 161, 168, 170, 171, 173, 174, 175, 176, 177, 180, 187, 189, 190, 192, 193, 194, 195, 196, 199, 206, 207, 208, 211, 218, 220, 221, 223, 224, 225, 226, 227, 230, 237, 239, 240, 242, 243, 244, 245, 246, 249, 252, 253, 254, 256, 257, 259, 260, 261, 263, 264, 266, 267, 268, 270, 271, 273, 274, 275, 277, 278, 280, 281, 282, 285, 286, 287, 290, 291, 292, 294, 295, 297, 298, 299, 301, 302, 304, 305, 306, 308, 309, 311, 312, 313, 314, 316, 317, 319, 320, 321, 323, 324, 326, 327, 328, 331, 332, 333, 335, 336, 338, 339, 340, 343, 344, 345, 347, 348, 350, 351, 352, 354, 355, 357, 358, 359, 361, 362, 364, 365, 373, 375, 376, 378, 379, 380, 382, 383, 385, 386, 387, 389, 390, 392, 393, 394, 395, 396, 397, 398, 401, 403, 404, 406, 407, 408, 411, 412, 413, 415, 416, 418, 419, 420, 422, 423, 425, 426, 427, 429, 430, 432, 433, 434, 437, 438, 439, 442, 443, 444, 447, 448, 456, 459, 460, 461, 463, 464, 466, 467, 468, 470, 471, 473, 474, 475, 478, 479, 480, 483, 484, 485, 487, 488, 490, 491, 492, 494, 495, 497, 498, 499, 501, 502, 504, 505, 506, 508, 509, 511, 512, 513, 515, 516, 518, 519, 520, 522, 523, 525, 526, 527, 529, 530, 532, 533, 534, 536, 537, 539, 540, 541, 543, 544, 546, 547, 548, 549, 550, 551, 552, 555, 557, 558, 560, 561, 562, 565, 566, 567, 569, 570, 572, 573, 574, 577, 578, 579, 582, 583, 584, 586, 587, 589, 590, 591, 593, 594, 596, 597, 598, 600, 601, 603, 604, 605, 607, 608, 610, 611, 612, 614, 615, 617, 618, 619, 622, 623, 624, 626, 627, 629, 630, 631, 634, 635, 636, 639, 640, 641, 642, 643, 645, 646, 648, 649, 650, 651, 652, 654, 655, 657, 658, 666, 667, 668, 670, 671, 673, 674, 675, 677, 678, 680, 681, 682, 684, 685, 687, 688, 689, 691, 692, 694, 695, 696, 698, 699, 701, 702, 703, 705, 706, 708, 709, 710, 712, 713, 715, 716, 717, 719, 720, 722, 723, 724, 726, 727, 729, 730, 731, 734, 735, 736, 739, 740, 741, 744, 745, 746, 748, 749, 751, 752, 753, 755, 756, 758, 759, 760, 762, 763, 765, 766, 767, 769, 770, 772, 773, 774, 775, 776, 777, 778, 781, 782, 784, 785, 787, 788, 789, 792, 793, 801, 803, 804, 806, 807, 808, 811, 812, 813, 816, 817, 818, 820, 821, 823, 824, 825, 827, 828, 830, 831, 832, 834, 835, 837, 838, 839, 840, 841, 842, 843, 846, 848, 849, 851, 852, 853, 855, 856, 858, 859, 860, 862, 863, 865, 866, 867, 869, 870, 872, 873, 874, 876, 877, 879, 880, 881, 883, 884, 886, 887, 888, 890, 891, 893, 894]
def LK.head_ts : List Addr := [637, 889]
section
local macro_rules | `(tactic| o_head ($_ $_ $_ $_ $_)) => `(tactic| assumption)
theorem LK.head_probe (hyp : PySem.Challenge.rw_keyedmoves_k62_values_that_are_no_texts.row.Holds) : PySem.Challenge.rw_keyedmoves_k62_values_that_are_no_texts.row.Holds := by
  k_head
end
theorem LK.head_ek : ∀ P, LK.head_as = (LK.head_probe.heap_1 P).map (·.1) := fun _ => by kernel_rfl
theorem LK.head_g1f (w : World) (os : OsState) : (HeadRun.endF (HeadRun.stepQ (HeadRun.denQ HeadRun.tabQ) PySem.Challenge.rw_keyedmoves_k62_values_that_are_no_texts.row.prog (w.withFollow "special-get-raises" false)) 14392 PySem.Challenge.rw_keyedmoves_k62_values_that_are_no_texts.row.prog (w.withFollow "special-get-raises" false) os).map (fun s => (HeadRun.looksF PySem.Challenge.rw_keyedmoves_k62_values_that_are_no_texts.row.prog (boot_heap (w.withFollow "special-get-raises" false).params) s.abs, (LK.head_as.map (HeadRun.getT s), LK.head_ts.map (HeadRun.getT s)), (HR2.sq PySem.Challenge.rw_keyedmoves_k62_values_that_are_no_texts.row LK.head_view LK.head_loose s).2.1)) = some (true, ((LK.head_probe.heap_1 (w.withFollow "special-get-raises" false).params).map fun x => some x.2, LK.head_ts.map fun _ => some (tabObj #[])), bltViewBooted) := by kernel_rfl
theorem LK.head_g2f : HR2.Ends PySem.Challenge.rw_keyedmoves_k62_values_that_are_no_texts.row 14392 "special-get-raises" false (fun s => (HR2.sq PySem.Challenge.rw_keyedmoves_k62_values_that_are_no_texts.row LK.head_view LK.head_loose s).1) fun _ => expectedOf LK.head_view := by intro w os; kernel_rfl
theorem LK.head_g3f : HR2.Ends PySem.Challenge.rw_keyedmoves_k62_values_that_are_no_texts.row 14392 "special-get-raises" false (fun s => ((HR2.sq PySem.Challenge.rw_keyedmoves_k62_values_that_are_no_texts.row LK.head_view LK.head_loose s).2.2.1, (HR2.sq PySem.Challenge.rw_keyedmoves_k62_values_that_are_no_texts.row LK.head_view LK.head_loose s).2.2.2.1)) fun _ => (true, true) := by intro w os; kernel_rfl
theorem LK.head_g4f : HR2.Ends PySem.Challenge.rw_keyedmoves_k62_values_that_are_no_texts.row 14392 "special-get-raises" false (fun s => ((HR2.sq PySem.Challenge.rw_keyedmoves_k62_values_that_are_no_texts.row LK.head_view LK.head_loose s).2.2.2.2.1, (HR2.sq PySem.Challenge.rw_keyedmoves_k62_values_that_are_no_texts.row LK.head_view LK.head_loose s).2.2.2.2.2.1)) fun _ => (pinGoodD (drecsOf LK.head_view), plainGoodE LK.head_view (looseW LK.head_view LK.head_loose)) := by intro w os; kernel_rfl
theorem LK.head_g5f : HR2.Ends PySem.Challenge.rw_keyedmoves_k62_values_that_are_no_texts.row 14392 "special-get-raises" false (fun s => (HR2.sq PySem.Challenge.rw_keyedmoves_k62_values_that_are_no_texts.row LK.head_view LK.head_loose s).2.2.2.2.2.2) fun _ => (plainGoodD LK.head_view LK.head_loose, wideGood LK.head_view, clsGoodW LK.head_view LK.head_loose) := by intro w os; kernel_rfl
theorem LK.head_g1t (w : World) (os : OsState) : (HeadRun.endF (HeadRun.stepQ (HeadRun.denQ HeadRun.tabQ) PySem.Challenge.rw_keyedmoves_k62_values_that_are_no_texts.row.prog (w.withFollow "special-get-raises" true)) 14392 PySem.Challenge.rw_keyedmoves_k62_values_that_are_no_texts.row.prog (w.withFollow "special-get-raises" true) os).map (fun s => (HeadRun.looksF PySem.Challenge.rw_keyedmoves_k62_values_that_are_no_texts.row.prog (boot_heap (w.withFollow "special-get-raises" true).params) s.abs, (LK.head_as.map (HeadRun.getT s), LK.head_ts.map (HeadRun.getT s)), (HR2.sq PySem.Challenge.rw_keyedmoves_k62_values_that_are_no_texts.row LK.head_view LK.head_loose s).2.1)) = some (true, ((LK.head_probe.heap_1 (w.withFollow "special-get-raises" true).params).map fun x => some x.2, LK.head_ts.map fun _ => some (tabObj #[])), bltViewBooted) := by kernel_rfl
theorem LK.head_g2t : HR2.Ends PySem.Challenge.rw_keyedmoves_k62_values_that_are_no_texts.row 14392 "special-get-raises" true (fun s => (HR2.sq PySem.Challenge.rw_keyedmoves_k62_values_that_are_no_texts.row LK.head_view LK.head_loose s).1) fun _ => expectedOf LK.head_view := by intro w os; kernel_rfl
theorem LK.head_g3t : HR2.Ends PySem.Challenge.rw_keyedmoves_k62_values_that_are_no_texts.row 14392 "special-get-raises" true (fun s => ((HR2.sq PySem.Challenge.rw_keyedmoves_k62_values_that_are_no_texts.row LK.head_view LK.head_loose s).2.2.1, (HR2.sq PySem.Challenge.rw_keyedmoves_k62_values_that_are_no_texts.row LK.head_view LK.head_loose s).2.2.2.1)) fun _ => (true, true) := by intro w os; kernel_rfl
theorem LK.head_g4t : HR2.Ends PySem.Challenge.rw_keyedmoves_k62_values_that_are_no_texts.row 14392 "special-get-raises" true (fun s => ((HR2.sq PySem.Challenge.rw_keyedmoves_k62_values_that_are_no_texts.row LK.head_view LK.head_loose s).2.2.2.2.1, (HR2.sq PySem.Challenge.rw_keyedmoves_k62_values_that_are_no_texts.row LK.head_view LK.head_loose s).2.2.2.2.2.1)) fun _ => (pinGoodD (drecsOf LK.head_view), plainGoodE LK.head_view (looseW LK.head_view LK.head_loose)) := by intro w os; kernel_rfl
theorem LK.head_g5t : HR2.Ends PySem.Challenge.rw_keyedmoves_k62_values_that_are_no_texts.row 14392 "special-get-raises" true (fun s => (HR2.sq PySem.Challenge.rw_keyedmoves_k62_values_that_are_no_texts.row LK.head_view LK.head_loose s).2.2.2.2.2.2) fun _ => (plainGoodD LK.head_view LK.head_loose, wideGood LK.head_view, clsGoodW LK.head_view LK.head_loose) := by intro w os; kernel_rfl
end
namespace DS
open PySem PySem.Spec PyProof.Rows L2

/-- data without addresses; ref: an address of its own standing (something that changes, a def, a class) -/
inductive SD where
  | non | bl (b : Bool) | int (i : Int) | str (x : Str) | ref (a : Addr) | ty (n : String)
  | tup (xs : List SD) | lst (xs : List SD) | dic (kvs : List (Key × SD))
  /-- a list that is read only (the script) -/
  | rol (xs : List SD)
  /-- an error of the own class named x, with its fields; it changes no more -/
  | exc (x : Str) (fs : List (Str × SD))
  /-- a tuple of which it is known that it has no dict of its own -/
  | ptp (xs : List SD)

/-- at a: an error of the class at C, its dict -/
def exq (a C : Addr) (d : Option Addr) : HO := .ext fun h => ∃ (oe : Obj) (vs : Array Value), h.get? a = some oe ∧ Zc (.ref C) d oe ∧ oe.data = .fields vs
/-- what the written part says of the class named x, and of the names fs as fields of its instances -/
structure XcK (K : PySem.W.Frag) (x : Str) (C : Addr) (fs : List Str) : Prop where
  at_ : PySem.W.nsIn K mainGlobals x = some (some (.ref C))
  ga : PySem.W.findIn K (.ref C) "__getattribute__" = some (some (.builtin "BaseException.__getattribute__"))
  gg : PySem.W.findIn K (.ref C) "__getattr__" = some none
  sub : PySem.W.subIn K (.ref C) (.type "BaseException") = some true
  hd : PySem.W.hasDictIn K C = true
  cl : PySem.W.findIn K (.ref C) "__class__" = some (some (.builtin "object.__class__"))
  sp : PySem.W.specialIn K (.builtin "object.__class__") "__get__" = some (some (.builtin "getset_descriptor.__get__"))
  tk : PySem.W.takesIn K (.builtin "object.__class__") = some true
  mro : PySem.W.mroIn K C (.type "object") = some true
  no : ∀ f ∈ fs, PySem.W.findIn K (.ref C) f = some none
/-- what tells of a thing that stays as it is -/
def still : HO → Bool
  | .ext _ => true
  | .xd _ => true
  | _ => false

mutual
/-- the value v is the datum, by what F knows -/
inductive RepS (K : PySem.W.Frag) (F : Hp) : SD → V → Prop
  | non : RepS K F .non .non
  | bl (b : Bool) : RepS K F (.bl b) (.bl b)
  | int (i : Int) : RepS K F (.int i) (.int i)
  | str (x : Str) : RepS K F (.str x) (.str x)
  | ref (a : Addr) : RepS K F (.ref a) (.ref a)
  | ty (n : String) : RepS K F (.ty n) (.ty n)
  | tup {a : Addr} {ds : List SD} {vs : List V} : SqT K F a vs → RepL K F ds vs → RepS K F (.tup ds) (.ref a)
  | lst {a : Addr} {ds : List SD} {vs : List V} : F a = some (.lst vs) → RepL K F ds vs → RepS K F (.lst ds) (.ref a)
  | rol {a : Addr} {ds : List SD} {vs : List V} : SqL K F a vs → RepL K F ds vs → RepS K F (.rol ds) (.ref a)
  | dic {a : Addr} {ds : List (Key × SD)} {vs : List (Key × V)} : Rd F a (.dK vs) → vs.map (·.1) = ds.map (·.1) → RepL K F (ds.map (·.2)) (vs.map (·.2)) → RepS K F (.dic ds) (.ref a)
  | exc0 {a C : Addr} {x : Str} : XcK K x C [] → F a = some (exq a C none) → RepS K F (.exc x []) (.ref a)
  | exc {a C dx : Addr} {x : Str} {ds : List (Str × SD)} {vs : List (Str × V)} : XcK K x C (ds.map (·.1)) → F a = some (exq a C (some dx)) → F dx = some (.xd vs) → vs.map (·.1) = ds.map (·.1) → RepL K F (ds.map (·.2)) (vs.map (·.2)) → RepS K F (.exc x ds) (.ref a)
  | ptp {a : Addr} {o : Obj} {ds : List SD} {vs : List V} : F a = some (.frz o (.tup vs)) → o.dict = none → RepL K F ds vs → RepS K F (.ptp ds) (.ref a)
inductive RepL (K : PySem.W.Frag) (F : Hp) : List SD → List V → Prop
  | nil : RepL K F [] []
  | cons {d : SD} {v : V} {ds : List SD} {vs : List V} : RepS K F d v → RepL K F ds vs → RepL K F (d :: ds) (v :: vs)
end

/-- F' reads whatever F reads -/
structure Ext (F F' : Hp) : Prop where
  rd : ∀ a u, Rd F a u → Rd F' a u
  ls : ∀ a vs, F a = some (.lst vs) → F' a = some (.lst vs)
  fz : ∀ a o u, F a = some (.frz o u) → F' a = some (.frz o u)
  st : ∀ a o, still o = true → F a = some o → F' a = some o
theorem Ext.refl (F : Hp) : Ext F F := ⟨fun _ _ h => h, fun _ _ h => h, fun _ _ _ h => h, fun _ _ _ h => h⟩
theorem Ext.trans {F F1 F2 : Hp} (a : Ext F F1) (b : Ext F1 F2) : Ext F F2 := ⟨fun x u h => b.rd x u (a.rd x u h), fun x u h => b.ls x u (a.ls x u h), fun x o u h => b.fz x o u (a.fz x o u h), fun x o q h => b.st x o q (a.st x o q h)⟩
theorem Ext.sqL {K : PySem.W.Frag} {F F' : Hp} {a : Addr} {xs : List V} (e : Ext F F') (h : SqL K F a xs) : SqL K F' a xs := h.elim (fun r => .inl (e.rd a _ r)) .inr
theorem Ext.sqT {K : PySem.W.Frag} {F F' : Hp} {a : Addr} {xs : List V} (e : Ext F F') (h : SqT K F a xs) : SqT K F' a xs := h.elim (fun r => .inl (e.rd a _ r)) .inr
theorem Ext.of_sub {F F' : Hp} (h : ∀ a o, F a = some o → F' a = some o) : Ext F F' := ⟨fun a u r => r.elim (fun z => .inl (h a _ z)) fun ⟨o, z⟩ => .inr ⟨o, h a _ z⟩, fun a vs z => h a _ z, fun a o u z => h a _ z, fun a o _ z => h a _ z⟩
theorem Ext.new {F : Hp} {p : Addr} {o : HO} (h : F p = none) : Ext F (upd F p o) := Ext.of_sub fun a u e => by
  rw [upd_ne (ne_of_none e h)]; exact e

mutual
theorem RepS.mono {K : PySem.W.Frag} {F F' : Hp} (e : Ext F F') : ∀ {d : SD} {v : V}, RepS K F d v → RepS K F' d v
  | _, _, .non => .non
  | _, _, .bl b => .bl b
  | _, _, .int i => .int i
  | _, _, .str x => .str x
  | _, _, .ref a => .ref a
  | _, _, .ty n => .ty n
  | _, _, .tup h r => .tup (e.sqT h) (RepL.mono e r)
  | _, _, .lst h r => .lst (e.ls _ _ h) (RepL.mono e r)
  | _, _, .rol h r => .rol (e.sqL h) (RepL.mono e r)
  | _, _, .dic h q r => .dic (e.rd _ _ h) q (RepL.mono e r)
  | _, _, .exc0 h q => .exc0 h (e.st _ _ rfl q)
  | _, _, .exc h q p z r => .exc h (e.st _ _ rfl q) (e.st _ _ rfl p) z (RepL.mono e r)
  | _, _, .ptp h q r => .ptp (e.fz _ _ _ h) q (RepL.mono e r)
theorem RepL.mono {K : PySem.W.Frag} {F F' : Hp} (e : Ext F F') : ∀ {ds : List SD} {vs : List V}, RepL K F ds vs → RepL K F' ds vs
  | _, _, .nil => .nil
  | _, _, .cons h r => .cons (RepS.mono e h) (RepL.mono e r)
end

section
variable {K : PySem.W.Frag} {F : Hp}
theorem RepL.length : ∀ {ds : List SD} {vs : List V}, RepL K F ds vs → ds.length = vs.length
  | _, _, .nil => rfl
  | _, _, .cons _ r => congrArg (· + 1) (RepL.length r)
theorem RepL.get : ∀ {ds : List SD} {vs : List V} {i : Nat} {d : SD}, RepL K F ds vs → ds[i]? = some d → ∃ v, vs[i]? = some v ∧ RepS K F d v
  | _, _, _, _, .nil, e => by simp at e
  | _, _, 0, _, .cons h _, e => by simp at e; subst e; exact ⟨_, rfl, h⟩
  | _, _, i + 1, d, .cons _ r, e => by
    obtain ⟨v, h1, h2⟩ := RepL.get (i := i) (d := d) r (by simpa using e)
    exact ⟨v, by simpa using h1, h2⟩
theorem RepL.getV : ∀ {ds : List SD} {vs : List V} {i : Nat} {v : V}, RepL K F ds vs → vs[i]? = some v → ∃ d, ds[i]? = some d ∧ RepS K F d v
  | _, _, _, _, .nil, e => by simp at e
  | _, _, 0, _, .cons h _, e => by simp at e; subst e; exact ⟨_, rfl, h⟩
  | _, _, i + 1, v, .cons _ r, e => by
    obtain ⟨d, h1, h2⟩ := RepL.getV (i := i) (v := v) r (by simpa using e)
    exact ⟨d, by simpa using h1, h2⟩
theorem RepL.append : ∀ {ds es : List SD} {vs ws : List V}, RepL K F ds vs → RepL K F es ws → RepL K F (ds ++ es) (vs ++ ws)
  | _, _, _, _, .nil, s => s
  | _, _, _, _, .cons h r, s => .cons h (RepL.append r s)
theorem RepL.take : ∀ {ds : List SD} {vs : List V} (n : Nat), RepL K F ds vs → RepL K F (ds.take n) (vs.take n)
  | _, _, 0, _ => .nil
  | _, _, _ + 1, .nil => .nil
  | _, _, n + 1, .cons h r => .cons h (RepL.take n r)
theorem RepL.drop : ∀ {ds : List SD} {vs : List V} (n : Nat), RepL K F ds vs → RepL K F (ds.drop n) (vs.drop n)
  | _, _, 0, r => r
  | _, _, _ + 1, .nil => .nil
  | _, _, n + 1, .cons _ r => RepL.drop n r
theorem RepL.one {d : SD} {v : V} (h : RepS K F d v) : RepL K F [d] [v] := .cons h .nil
theorem RepL.reverse : ∀ {ds : List SD} {vs : List V}, RepL K F ds vs → RepL K F ds.reverse vs.reverse
  | _, _, .nil => .nil
  | _, _, .cons h r => by rw [List.reverse_cons, List.reverse_cons]; exact (RepL.reverse r).append (.one h)
theorem RepL.set {e : SD} {w : V} (h : RepS K F e w) : ∀ {ds : List SD} {vs : List V} (i : Nat), RepL K F ds vs → RepL K F (ds.set i e) (vs.set i w)
  | _, _, _, .nil => .nil
  | _, _, 0, .cons _ r => .cons h r
  | _, _, i + 1, .cons q r => .cons q (RepL.set h i r)
theorem RepL.dropLast {ds : List SD} {vs : List V} (h : RepL K F ds vs) : RepL K F ds.dropLast vs.dropLast := by
  rw [List.dropLast_eq_take, List.dropLast_eq_take, h.length]; exact h.take _
theorem RepL.nil_iff {ds : List SD} {vs : List V} (h : RepL K F ds vs) : ds = [] ↔ vs = [] := by
  cases h <;> simp
theorem RepL.ofInts : ∀ (ns : List Int), RepL K F (ns.map SD.int) (ns.map V.int)
  | [] => .nil
  | n :: r => .cons (.int n) (RepL.ofInts r)
end

/-- what stands at an address and may change -/
inductive MO where
  | lst (xs : List SD)
  | dic (kvs : List (Key × SD))
  /-- an instance of the own class named x -/
  | obj (x : Str) (fs : List (Str × SD))
  /-- a dict that is walked through: it stands just so -/
  | fdic (kvs : List (Key × SD)) (o : HO)
  /-- the table of code objects at P of the def x: all that it tells bear the name q -/
  | tab (P : Addr) (x q : Str)
  /-- any thing, by what the heap tells of it -/
  | hob (o : HO)
abbrev Mu := Addr → Option MO
def up (μ : Mu) (a : Addr) (m : MO) : Mu := fun b => if b = a then some m else μ b
theorem up_same {μ : Mu} {a : Addr} {m : MO} : up μ a m a = some m := by unfold up; rw [if_pos rfl]
theorem up_ne {μ : Mu} {a b : Addr} {m : MO} (h : b ≠ a) : up μ a m b = μ b := by unfold up; rw [if_neg h]
theorem up_up {μ : Mu} {a : Addr} {m n : MO} : up (up μ a m) a n = up μ a n := by funext b; unfold up; split <;> rfl
theorem mu_ne {μ : Mu} {a b : Addr} {m : MO} (h : μ a = some m) (h' : μ b = none) : a ≠ b := by
  intro e; subst e; rw [h] at h'; cases h'
/-- what the written part says of the own class named x -/
structure OcK (K : PySem.W.Frag) (x : Str) (C : Addr) : Prop where
  at_ : PySem.W.nsIn K mainGlobals x = some (some (.ref C))
  c : Cls K C
/-- the table of the code object of the def named x stands at P -/
def TabAt (K : PySem.W.Frag) (x : Str) (P : Addr) : Prop := ∃ (f c : Addr) (oc : Value) (od : Option Addr) (fd : FuncData) (osl : Array (Option Value)), PySem.W.nsIn K mainGlobals x = some (some (.ref f)) ∧ K.lookup f = some ⟨oc, od, .func fd, osl⟩ ∧ fd.code = .ref c ∧ PySem.W.codeHdIn K c P = true
inductive RepO (K : PySem.W.Frag) (F : Hp) : MO → HO → Prop
  | lst {ds : List SD} {vs : List V} : RepL K F ds vs → RepO K F (.lst ds) (.lst vs)
  | dic {ds : List (Key × SD)} {vs : List (Key × V)} : vs.map (·.1) = ds.map (·.1) → RepL K F (ds.map (·.2)) (vs.map (·.2)) → RepO K F (.dic ds) (.dK vs)
  | obj {C dx : Addr} {x : Str} {ds : List (Str × SD)} {vs : List (Str × V)} : OcK K x C → vs.map (·.1) = ds.map (·.1) → RepL K F (ds.map (·.2)) (vs.map (·.2)) → RepO K F (.obj x ds) (.ins C dx vs)
  | fdic {ob : Obj} {ds : List (Key × SD)} {vs : List (Key × V)} : vs.map (·.1) = ds.map (·.1) → RepL K F (ds.map (·.2)) (vs.map (·.2)) → RepO K F (.fdic ds (.frz ob (.dK vs))) (.frz ob (.dK vs))
  | tab {P : Addr} {x q : Str} {ps : Array Value} : TabAt K x P → TriplesOk ps.toList → (∀ (pos : Pos) (cv : Value), codeAmong pos ps.toList = some cv → ∃ c, cv = .ref c ∧ F c = some (LamX.CodeO c q)) → RepO K F (.tab P x q) (.tbl ps)
  | hob {o : HO} : RepO K F (.hob o) o
theorem RepO.mono {K : PySem.W.Frag} {F F' : Hp} (e : Ext F F') {m : MO} {o : HO} (h : RepO K F m o) : RepO K F' m o := by
  cases h with
  | lst r => exact .lst (r.mono e)
  | dic q r => exact .dic q (r.mono e)
  | obj c q r => exact .obj c q (r.mono e)
  | fdic q r => exact .fdic q (r.mono e)
  | tab a t k => exact .tab a t fun pos cv hc => (k pos cv hc).elim fun c z => ⟨c, z.1, e.st _ _ rfl z.2⟩
  | hob => exact .hob

/-- the heap H is F (known, unchanging) and μ (what changes), and more -/
structure HReal (K : PySem.W.Frag) (F H : Hp) (μ : Mu) : Prop where
  sub : ∀ a o, F a = some o → H a = some o
  mus : ∀ a m, μ a = some m → F a = none ∧ ∃ o, H a = some o ∧ RepO K F m o
/-- what is neither F's nor μ's stays so -/
structure Stp (F H : Hp) (μ : Mu) (F' H' : Hp) (μ' : Mu) : Prop where
  ext : Ext F F'
  fr : ∀ a, H a ≠ none → F a = none → μ a = none → H' a = H a ∧ F' a = none ∧ μ' a = none
theorem Stp.refl (F H : Hp) (μ : Mu) : Stp F H μ F H μ := ⟨Ext.refl F, fun _ _ b c => ⟨rfl, b, c⟩⟩
theorem Stp.trans {F H F1 H1 F2 H2 : Hp} {μ μ1 μ2 : Mu} (a : Stp F H μ F1 H1 μ1) (b : Stp F1 H1 μ1 F2 H2 μ2) : Stp F H μ F2 H2 μ2 :=
  ⟨a.ext.trans b.ext, fun x h1 h2 h3 => by
    obtain ⟨p, q, r⟩ := a.fr x h1 h2 h3
    obtain ⟨p', q', r'⟩ := b.fr x (by rw [p]; exact h1) q r
    exact ⟨p'.trans p, q', r'⟩⟩
section
variable {K : PySem.W.Frag} {F H : Hp} {μ : Mu} {p a : Addr}
theorem HReal.freeF (R : HReal K F H μ) (h : H p = none) : F p = none := by
  cases e : F p with
  | none => rfl
  | some o => rw [R.sub p o e] at h; cases h
theorem HReal.freeM (R : HReal K F H μ) (h : H p = none) : μ p = none := by
  cases e : μ p with
  | none => rfl
  | some m =>
    obtain ⟨_, o, z, _⟩ := R.mus p m e
    rw [z] at h; cases h
theorem HReal.ext (R : HReal K F H μ) : Ext F H := Ext.of_sub R.sub
/-- a new object that will not change -/
theorem HReal.newS (R : HReal K F H μ) {o : HO} (h : H p = none) : HReal K (upd F p o) (upd H p o) μ := by
  have hF := R.freeF h
  refine ⟨fun b u e => ?_, fun b m e => ?_⟩
  · by_cases hb : b = p
    · subst hb; rw [upd_same] at e ⊢; exact e
    · rw [upd_ne hb] at e ⊢; exact R.sub b u e
  · obtain ⟨z, u, q, r⟩ := R.mus b m e
    have hb : b ≠ p := ne_of_none q h
    exact ⟨by rw [upd_ne hb]; exact z, u, by rw [upd_ne hb]; exact q, r.mono (Ext.new hF)⟩
theorem Stp.newS (R : HReal K F H μ) {o : HO} (h : H p = none) : Stp F H μ (upd F p o) (upd H p o) μ :=
  ⟨Ext.new (R.freeF h), fun b h1 h2 h3 => by
    have hb : b ≠ p := fun z => by subst z; exact h1 h
    exact ⟨upd_ne hb, by rw [upd_ne hb]; exact h2, h3⟩⟩
/-- a new object that may change -/
theorem HReal.newM (R : HReal K F H μ) {o : HO} {m : MO} (h : H p = none) (r : RepO K F m o) : HReal K F (upd H p o) (up μ p m) := by
  have hF := R.freeF h
  refine ⟨fun b u e => ?_, fun b n e => ?_⟩
  · rw [upd_ne (ne_of_none e hF)]; exact R.sub b u e
  · by_cases hb : b = p
    · subst hb; rw [up_same] at e; cases e; exact ⟨hF, o, upd_same, r⟩
    · rw [up_ne hb] at e
      obtain ⟨z, u, q, r'⟩ := R.mus b n e
      exact ⟨z, u, by rw [upd_ne hb]; exact q, r'⟩
theorem Stp.newM (R : HReal K F H μ) {o : HO} {m : MO} (h : H p = none) : Stp F H μ F (upd H p o) (up μ p m) :=
  ⟨Ext.refl F, fun b h1 h2 h3 => by
    have hb : b ≠ p := fun z => by subst z; exact h1 h
    exact ⟨upd_ne hb, h2, by rw [up_ne hb]; exact h3⟩⟩
/-- an object is changed -/
theorem HReal.put (R : HReal K F H μ) {o : HO} {m n : MO} (h : μ a = some n) (r : RepO K F m o) : HReal K F (upd H a o) (up μ a m) := by
  have hF := (R.mus a n h).1
  refine ⟨fun b u e => ?_, fun b k e => ?_⟩
  · rw [upd_ne (ne_of_none e hF)]; exact R.sub b u e
  · by_cases hb : b = a
    · subst hb; rw [up_same] at e; cases e; exact ⟨hF, o, upd_same, r⟩
    · rw [up_ne hb] at e
      obtain ⟨z, u, q, r'⟩ := R.mus b k e
      exact ⟨z, u, by rw [upd_ne hb]; exact q, r'⟩
theorem Stp.put {o : HO} {m n : MO} (h : μ a = some n) : Stp F H μ F (upd H a o) (up μ a m) :=
  ⟨Ext.refl F, fun b h1 h2 h3 => by
    have hb : b ≠ a := fun z => by subst z; rw [h] at h3; cases h3
    exact ⟨upd_ne hb, h2, by rw [up_ne hb]; exact h3⟩⟩
/-- forgetting -/
def rm (μ : Mu) (a : Addr) : Mu := fun b => if b = a then none else μ b
theorem rm_same : rm μ a a = none := by unfold rm; rw [if_pos rfl]
theorem rm_ne {b : Addr} (h : b ≠ a) : rm μ a b = μ b := by unfold rm; rw [if_neg h]
/-- a list that changes no more -/
theorem HReal.freeze (R : HReal K F H μ) {xs : List SD} (h : μ a = some (.lst xs)) : ∃ vs, H a = some (.lst vs) ∧ RepL K F xs vs ∧ HReal K (upd F a (.lst vs)) H (rm μ a) ∧ Stp F H μ (upd F a (.lst vs)) H (rm μ a) ∧ RepS K (upd F a (.lst vs)) (.lst xs) (.ref a) := by
  obtain ⟨hF, o, hH, r⟩ := R.mus a _ h
  cases r with
  | lst r =>
    rename_i vs
    have ex : Ext F (upd F a (.lst vs)) := Ext.new hF
    refine ⟨vs, hH, r, ⟨fun b u e => ?_, fun b m e => ?_⟩, ⟨ex, fun b h1 h2 h3 => ?_⟩, .lst upd_same (r.mono ex)⟩
    · by_cases hb : b = a
      · subst hb; rw [upd_same] at e; cases e; exact hH
      · rw [upd_ne hb] at e; exact R.sub b u e
    · by_cases hb : b = a
      · subst hb; rw [rm_same] at e; cases e
      · rw [rm_ne hb] at e
        obtain ⟨z, u, q, r'⟩ := R.mus b m e
        exact ⟨by rw [upd_ne hb]; exact z, u, q, r'.mono ex⟩
    · have hb : b ≠ a := fun z => by subst z; rw [h] at h3; cases h3
      exact ⟨rfl, by rw [upd_ne hb]; exact h2, by rw [rm_ne hb]; exact h3⟩
theorem HReal.freezeD (R : HReal K F H μ) {xs : List (Key × SD)} (h : μ a = some (.dic xs)) : ∃ vs, H a = some (.dK vs) ∧ HReal K (upd F a (.dK vs)) H (rm μ a) ∧ Stp F H μ (upd F a (.dK vs)) H (rm μ a) ∧ RepS K (upd F a (.dK vs)) (.dic xs) (.ref a) := by
  obtain ⟨hF, o, hH, r⟩ := R.mus a _ h
  cases r with
  | dic q r =>
    rename_i vs
    have ex : Ext F (upd F a (.dK vs)) := Ext.new hF
    refine ⟨vs, hH, ⟨fun b u e => ?_, fun b m e => ?_⟩, ⟨ex, fun b h1 h2 h3 => ?_⟩, .dic (.inl upd_same) q (r.mono ex)⟩
    · by_cases hb : b = a
      · subst hb; rw [upd_same] at e; cases e; exact hH
      · rw [upd_ne hb] at e; exact R.sub b u e
    · by_cases hb : b = a
      · subst hb; rw [rm_same] at e; cases e
      · rw [rm_ne hb] at e
        obtain ⟨z, u, q, r'⟩ := R.mus b m e
        exact ⟨by rw [upd_ne hb]; exact z, u, q, r'.mono ex⟩
    · have hb : b ≠ a := fun z => by subst z; rw [h] at h3; cases h3
      exact ⟨rfl, by rw [upd_ne hb]; exact h2, by rw [rm_ne hb]; exact h3⟩
end

abbrev Rho := List (Option SD)
/-- the slots: where ρ knows a datum, σ has it -/
structure Slots (K : PySem.W.Frag) (F : Hp) (σ : L2.St) (ρ : Rho) : Prop where
  len : σ.length = ρ.length
  at_ : ∀ (i : Nat) (d : SD), ρ[i]? = some (some d) → ∃ v, σ[i]? = some (some v) ∧ RepS K F d v
section
variable {K : PySem.W.Frag} {F F' : Hp} {σ : L2.St} {ρ : Rho}
theorem Slots.mono (e : Ext F F') (h : Slots K F σ ρ) : Slots K F' σ ρ := ⟨h.len, fun i d q => let ⟨v, a, b⟩ := h.at_ i d q; ⟨v, a, b.mono e⟩⟩
theorem Slots.set {d : SD} {v : V} (h : Slots K F σ ρ) (i : Nat) (r : RepS K F d v) : Slots K F (σ.set i (some v)) (ρ.set i (some d)) := by
  refine ⟨by simp [h.len], fun j e q => ?_⟩
  by_cases hj : j = i
  · subst hj
    by_cases hl : j < ρ.length
    · rw [List.getElem?_set_self hl] at q
      cases q
      exact ⟨v, List.getElem?_set_self (by rw [h.len]; exact hl), r⟩
    · rw [List.getElem?_eq_none (by simpa using Nat.le_of_not_lt hl)] at q; cases q
  · rw [List.getElem?_set_ne (Ne.symm hj)] at q ⊢
    exact h.at_ j e q
end

abbrev DTE := Rho → Mu → (SD → Mu → Prop) → Prop
abbrev DTT := Rho → Mu → (Bool → Mu → Prop) → Prop
abbrev DTA := Rho → Mu → (List SD → Mu → Prop) → Prop
/-- what an exception's reading may speak of: the class, its attributes -/
abbrev DXK := Addr → List (Str × SD) → Mu → Prop
structure DEnds where
  nx : Rho → Mu → Prop
  rt : SD → Mu → Prop
  bk : Rho → Mu → Prop := fun _ _ => False
  ct : Rho → Mu → Prop := fun _ _ => False
abbrev DTS := DEnds → Rho → Mu → Prop
abbrev DTG := SD → Rho → Mu → (Rho → Mu → Prop) → Prop
abbrev DTGs := List SD → Rho → Mu → (Rho → Mu → Prop) → Prop

/-- the state is (F, H, μ) with the slots; behind it Q' is to hold of the datum -/
def LE (K : PySem.W.Frag) (t : DTE) : TE := fun σ H Q => ∃ F ρ μ Q', HReal K F H μ ∧ Slots K F σ ρ ∧ t ρ μ Q' ∧
  ∀ d μ', Q' d μ' → ∀ F' H' v, Stp F H μ F' H' μ' → HReal K F' H' μ' → RepS K F' d v → Q v H'
def LT (K : PySem.W.Frag) (t : DTT) : TT := fun σ H Q => ∃ F ρ μ Q', HReal K F H μ ∧ Slots K F σ ρ ∧ t ρ μ Q' ∧
  ∀ b μ', Q' b μ' → ∀ F' H', Stp F H μ F' H' μ' → HReal K F' H' μ' → Q b H'
def LA (K : PySem.W.Frag) (t : DTA) : TA := fun σ H Q => ∃ F ρ μ Q', HReal K F H μ ∧ Slots K F σ ρ ∧ t ρ μ Q' ∧
  ∀ ds μ', Q' ds μ' → ∀ F' H' vs, Stp F H μ F' H' μ' → HReal K F' H' μ' → RepL K F' ds vs → Q vs H'
def LG (K : PySem.W.Frag) (t : DTG) : TG := fun v σ H Q => ∃ F ρ μ d Q', HReal K F H μ ∧ Slots K F σ ρ ∧ RepS K F d v ∧ t d ρ μ Q' ∧
  ∀ ρ' μ', Q' ρ' μ' → ∀ F' H' σ', Stp F H μ F' H' μ' → HReal K F' H' μ' → Slots K F' σ' ρ' → Q σ' H'
def LGs (K : PySem.W.Frag) (t : DTGs) : TGs := fun vs σ H Q => ∃ F ρ μ ds Q', HReal K F H μ ∧ Slots K F σ ρ ∧ RepL K F ds vs ∧ t ds ρ μ Q' ∧
  ∀ ρ' μ', Q' ρ' μ' → ∀ F' H' σ', Stp F H μ F' H' μ' → HReal K F' H' μ' → Slots K F' σ' ρ' → Q σ' H'
def LS (K : PySem.W.Frag) (t : DTS) : TS := fun D σ H => ∃ F ρ μ D', HReal K F H μ ∧ Slots K F σ ρ ∧ t D' ρ μ ∧
  (∀ ρ' μ', D'.nx ρ' μ' → ∀ F' H' σ', Stp F H μ F' H' μ' → HReal K F' H' μ' → Slots K F' σ' ρ' → D.nx σ' H') ∧
  (∀ d μ', D'.rt d μ' → ∀ F' H' v, Stp F H μ F' H' μ' → HReal K F' H' μ' → RepS K F' d v → D.rt v H') ∧
  (∀ ρ' μ', D'.bk ρ' μ' → ∀ F' H' σ', Stp F H μ F' H' μ' → HReal K F' H' μ' → Slots K F' σ' ρ' → D.bk σ' H') ∧
  (∀ ρ' μ', D'.ct ρ' μ' → ∀ F' H' σ', Stp F H μ F' H' μ' → HReal K F' H' μ' → Slots K F' σ' ρ' → D.ct σ' H')

abbrev DE (X : Cx) (e : Expr) (t : DTE) : Prop := PE X e (LE X.K t)
abbrev DT (X : Cx) (e : Expr) (t : DTT) : Prop := PT X e (LT X.K t)
abbrev DW (X : Cx) (e : Expr) (t : DTT) : Prop := PW X e (LT X.K t)
abbrev DA (X : Cx) (es : List Expr) (t : DTA) : Prop := PA X es (LA X.K t)
abbrev DG (X : Cx) (e : Expr) (t : DTG) : Prop := PG X e (LG X.K t)
abbrev DGs (X : Cx) (es : List Expr) (t : DTGs) : Prop := PGs X es (LGs X.K t)
abbrev DS_ (X : Cx) (s : Stmt) (t : DTS) : Prop := PS X s (LS X.K t)
abbrev DSs (X : Cx) (s : List Stmt) (t : DTS) : Prop := PSs X s (LS X.K t)

theorem weakE {X : Cx} {e : Expr} {t t' : TE} (h : PE X e t) (w : ∀ σ H Q, t' σ H Q → t σ H Q) : PE X e t' := ⟨fun pins s σ H Q I q => h.run pins s σ H Q I (w σ H Q q)⟩
theorem weakT {X : Cx} {e : Expr} {t t' : TT} (h : PT X e t) (w : ∀ σ H Q, t' σ H Q → t σ H Q) : PT X e t' := ⟨fun pins s σ H Q I q => h.run pins s σ H Q I (w σ H Q q)⟩
theorem weakW {X : Cx} {e : Expr} {t t' : TT} (h : PW X e t) (w : ∀ σ H Q, t' σ H Q → t σ H Q) : PW X e t' := ⟨fun wh pins s σ H Q I q => h.run wh pins s σ H Q I (w σ H Q q)⟩
theorem weakA {X : Cx} {e : List Expr} {t t' : TA} (h : PA X e t) (w : ∀ σ H Q, t' σ H Q → t σ H Q) : PA X e t' := ⟨fun ps pins s σ H Q I q => h.run ps pins s σ H Q I (w σ H Q q)⟩
theorem weakS {X : Cx} {e : Stmt} {t t' : TS} (h : PS X e t) (w : ∀ D σ H, t' D σ H → t D σ H) : PS X e t' := ⟨fun pins s σ H D I q => h.run pins s σ H D I (w D σ H q)⟩
theorem weakSs {X : Cx} {e : List Stmt} {t t' : TS} (h : PSs X e t) (w : ∀ D σ H, t' D σ H → t D σ H) : PSs X e t' := ⟨fun pins s σ H D I q => h.run pins s σ H D I (w D σ H q)⟩
theorem weakG {X : Cx} {e : Expr} {t t' : TG} (h : PG X e t) (w : ∀ v σ H Q, t' v σ H Q → t v σ H Q) : PG X e t' := ⟨fun pins s σ H v u Q I r q => h.run pins s σ H v u Q I r (w v σ H Q q)⟩
theorem weakGs {X : Cx} {e : List Expr} {t t' : TGs} (h : PGs X e t) (w : ∀ v σ H Q, t' v σ H Q → t v σ H Q) : PGs X e t' := ⟨fun pins s σ H v u Q I r q => h.run pins s σ H v u Q I r (w v σ H Q q)⟩

section
variable {X : Cx} {pos p : Pos} {a b c e o : Expr} {es : List Expr} {x : Str}
def dVar (i : Nat) : DTE := fun ρ μ Q => match ρ[i]? with
  | some (some d) => Q d μ
  | _ => False
theorem de_var {i : Nat} (hN : X.N[i]? = some x) (hv : Vis X.env.scope x) (hd : (x == ("__debug__" : Str)) = false := by decide) (hcd : (x == ("__classdict__" : Str)) = false := by decide) : DE X (.Name x pos) (dVar i) :=
  weakE (pe_var hN hv hd hcd) fun σ H Q h => by
    obtain ⟨F, ρ, μ, Q', R, S, t, k⟩ := h
    unfold dVar at t
    split at t
    · rename_i d e
      obtain ⟨v, h1, h2⟩ := S.at_ _ _ e
      exact ⟨v, h1, k d μ t F H v (Stp.refl F H μ) R h2⟩
    · exact t.elim
abbrev dC (d : SD) : DTE := fun _ μ Q => Q d μ
/-- a datum whose value is plain -/
def plain : SD → Option V
  | .non => some .non
  | .bl b => some (.bl b)
  | .int i => some (.int i)
  | .str x => some (.str x)
  | .ref a => some (.ref a)
  | .ty n => some (.ty n)
  | _ => none
theorem RepS.plain {K : PySem.W.Frag} {F : Hp} {d : SD} {v : V} (h : plain d = some v) : RepS K F d v := by
  cases d <;> simp [DS.plain] at h <;> subst h <;> constructor
theorem RepS.isPlain {K : PySem.W.Frag} {F : Hp} {d : SD} {v w : V} (h : RepS K F d v) (p : DS.plain d = some w) : v = w := by
  cases h <;> simp [DS.plain] at p <;> exact p
theorem liftC {t : TE} {d : SD} {v : V} (h : PE X e (tC v)) (p : plain d = some v) : DE X e (dC d) :=
  weakE h fun σ H Q h => by
    obtain ⟨F, ρ, μ, Q', R, S, t, k⟩ := h
    exact k d μ t F H v (Stp.refl F H μ) R (RepS.plain p)
theorem de_int {i : Int} {j} : DE X (.Constant (.int i) j pos) (dC (.int i)) := liftC (t := tC (.int i)) pe_int rfl
theorem de_bl {i : Bool} {j} : DE X (.Constant (.bool i) j pos) (dC (.bl i)) := liftC (t := tC (.bl i)) pe_bl rfl
theorem de_non {j} : DE X (.Constant .none j pos) (dC .non) := liftC (t := tC .non) pe_non rfl
theorem de_str {y : Str} {j} : DE X (.Constant (.str y) j pos) (dC (.str y)) := liftC (t := tC (.str y)) pe_str rfl
theorem de_glob {d : SD} {v : V} {u : Value} (hg : Gl X x) (hm : X.mg x = some u) (r : RelV v u) (pl : plain d = some v) (hd : (x == ("__debug__" : Str)) = false := by decide) : DE X (.Name x pos) (dC d) := liftC (t := tC v) (pe_glob hg hm r hd) pl

/-- two operands -/
abbrev DR2 := SD → SD → Mu → (SD → Mu → Prop) → Prop
def LR2 (K : PySem.W.Frag) (dr : DR2) (r : R2) : Prop := ∀ F H μ x y dx dy Q' Q, HReal K F H μ → RepS K F dx x → RepS K F dy y → dr dx dy μ Q' →
  (∀ d μ', Q' d μ' → ∀ F' H' v, Stp F H μ F' H' μ' → HReal K F' H' μ' → RepS K F' d v → Q v H') → r x y H Q
abbrev dOp (dr : DR2) (ta tb : DTE) : DTE := fun ρ μ Q => ta ρ μ fun x μ1 => tb ρ μ1 fun y μ2 => dr x y μ2 Q
theorem lift2 {K : PySem.W.Frag} {dr : DR2} {r : R2} {ta tb : DTE} (hl : LR2 K dr r) : ∀ σ H Q, LE K (dOp dr ta tb) σ H Q → tOp r (LE K ta) (LE K tb) σ H Q := fun σ H Q h => by
  obtain ⟨F, ρ, μ, Q', R, S, t, k⟩ := h
  refine ⟨F, ρ, μ, _, R, S, t, fun d1 μ1 t1 F1 H1 v1 s1 R1 r1 => ?_⟩
  refine ⟨F1, ρ, μ1, _, R1, S.mono s1.ext, t1, fun d2 μ2 t2 F2 H2 v2 s2 R2 r2 => ?_⟩
  exact hl F2 H2 μ2 v1 v2 d1 d2 Q' Q R2 (r1.mono s2.ext) r2 t2 fun d μ' q F' H' v s R' r' => k d μ' q F' H' v ((s1.trans s2).trans s) R' r'
theorem de_op {op : Operator} {r : R2} {dr : DR2} {ta tb : DTE} (ho : OpR X (binaryOp op) r) (hl : LR2 X.K dr r) (ha : DE X a ta) (hb : DE X b tb) : DE X (.BinOp a op b pos) (dOp dr ta tb) :=
  weakE (pe_op ho ha hb) (lift2 hl)
theorem de_cmp {op : CmpOp} {r : R2} {dr : DR2} {ta tb : DTE} (ho : OpR X (compareOp op) r) (hl : LR2 X.K dr r) (ha : DE X a ta) (hb : DE X b tb) (hm : behindInMarks op b = false) : DE X (.Compare a [op] [b] pos) (dOp dr ta tb) :=
  weakE (pe_cmpR ho ha hb hm) (lift2 hl)
abbrev dTest (t : DTE) : DTT := fun ρ μ Q => t ρ μ fun d μ1 => match d with
  | .bl b => Q b μ1
  | _ => False
theorem dt_cmp {op : CmpOp} {r : R2} {dr : DR2} {ta tb : DTE} (ho : OpR X (compareOp op) r) (hl : LR2 X.K dr r) (ha : DE X a ta) (hb : DE X b tb) (hm : behindInMarks op b = false) : DT X (.Compare a [op] [b] pos) (dTest (dOp dr ta tb)) :=
  weakT (pt_cmpR ho ha hb hm) fun σ H Q h => by
    obtain ⟨F, ρ, μ, Q', R, S, t, k⟩ := h
    refine lift2 hl σ H _ ⟨F, ρ, μ, _, R, S, t, fun d μ' q F' H' v s R' r' => ?_⟩
    cases r' with
    | bl b => exact ⟨b, rfl, k b μ' q F' H' s R'⟩
    | _ => exact q.elim
/-- an expression that gives True or False, as a test -/
theorem dt_val {t : DTE} (h : DE X e t) (he : ∀ whole, isTrue e X.env whole = (do let v ← whole; standAt e.pos; holding [v] (truthy v)) := by intro _; rfl) : DT X e (dTest t) :=
  weakT (pt_val h he) fun σ H Q h => by
    obtain ⟨F, ρ, μ, Q', R, S, t, k⟩ := h
    refine ⟨F, ρ, μ, _, R, S, t, fun d μ' q F' H' v s R' r' => ?_⟩
    cases r' with
    | bl b => exact ⟨b, rfl, k b μ' q F' H' s R'⟩
    | _ => exact q.elim
abbrev dAnd (t u : DTT) : DTT := fun ρ μ Q => t ρ μ fun c μ1 => if c = true then u ρ μ1 Q else Q false μ1
abbrev dOr (t u : DTT) : DTT := fun ρ μ Q => t ρ μ fun c μ1 => if c = true then Q true μ1 else u ρ μ1 Q
abbrev dNot (t : DTT) : DTT := fun ρ μ Q => t ρ μ fun c μ1 => Q (!c) μ1
section
variable {K : PySem.W.Frag} {t u : DTT}
theorem lift_and : ∀ σ H Q, LT K (dAnd t u) σ H Q → tAnd (LT K t) (LT K u) σ H Q := fun σ H Q h => by
  obtain ⟨F, ρ, μ, Q', R, S, t, k⟩ := h
  refine ⟨F, ρ, μ, _, R, S, t, fun c μ1 t1 F1 H1 s1 R1 => ?_⟩
  cases c with
  | true => exact ⟨F1, ρ, μ1, Q', R1, S.mono s1.ext, t1, fun b μ' q F' H' s R' => k b μ' q F' H' (s1.trans s) R'⟩
  | false => exact k false μ1 t1 F1 H1 s1 R1
theorem lift_or : ∀ σ H Q, LT K (dOr t u) σ H Q → tOr (LT K t) (LT K u) σ H Q := fun σ H Q h => by
  obtain ⟨F, ρ, μ, Q', R, S, t, k⟩ := h
  refine ⟨F, ρ, μ, _, R, S, t, fun c μ1 t1 F1 H1 s1 R1 => ?_⟩
  cases c with
  | false => exact ⟨F1, ρ, μ1, Q', R1, S.mono s1.ext, t1, fun b μ' q F' H' s R' => k b μ' q F' H' (s1.trans s) R'⟩
  | true => exact k true μ1 t1 F1 H1 s1 R1
end
theorem dw_and1 {t : DTT} (ha : DT X a t) : DW X (.BoolOp .And [a] pos) t := pw_and1 ha
theorem dw_or1 {t : DTT} (ha : DT X a t) : DW X (.BoolOp .Or [a] pos) t := pw_or1 ha
theorem dw_and {t u : DTT} {rest : List Expr} (ha : DT X a t) (hb : DW X (.BoolOp .And (b :: rest) pos) u) : DW X (.BoolOp .And (a :: b :: rest) pos) (dAnd t u) := weakW (pw_and ha hb) lift_and
theorem dw_or {t u : DTT} {rest : List Expr} (ha : DT X a t) (hb : DW X (.BoolOp .Or (b :: rest) pos) u) : DW X (.BoolOp .Or (a :: b :: rest) pos) (dOr t u) := weakW (pw_or ha hb) lift_or
theorem dt_not {t : DTT} (ha : DT X a t) : DT X (.UnaryOp .Not a pos) (dNot t) := weakT (pt_not ha) fun σ H Q h => by
  obtain ⟨F, ρ, μ, Q', R, S, t, k⟩ := h
  exact ⟨F, ρ, μ, _, R, S, t, fun c μ1 t1 F1 H1 s1 R1 => k (!c) μ1 t1 F1 H1 s1 R1⟩
/-- and, or, not as values: all but the last True or False -/
abbrev dAndV (ta tb : DTE) : DTE := fun ρ μ Q => ta ρ μ fun x μ1 => match x with
  | .bl true => tb ρ μ1 Q
  | .bl false => Q (.bl false) μ1
  | _ => False
abbrev dNotV (ta : DTE) : DTE := fun ρ μ Q => ta ρ μ fun x μ1 => match x with
  | .bl b => Q (.bl (!b)) μ1
  | _ => False
theorem de_one {op} {t : DTE} (h : DE X a t) : DE X (.BoolOp op [a] pos) t := pe_one h
theorem de_and {ta tb : DTE} {rest : List Expr} (ha : DE X a ta) (hb : DE X (.BoolOp .And (b :: rest) pos) tb) : DE X (.BoolOp .And (a :: b :: rest) pos) (dAndV ta tb) := weakE (pe_and ha hb) fun σ H Q h => by
  obtain ⟨F, ρ, μ, Q', R, S, t, k⟩ := h
  refine ⟨F, ρ, μ, _, R, S, t, fun d μ1 t1 F1 H1 v s1 R1 r1 => ?_⟩
  cases r1 with
  | bl c =>
    refine ⟨c, rfl, ?_⟩
    cases c with
    | true => exact ⟨F1, ρ, μ1, Q', R1, S.mono s1.ext, t1, fun b μ' q F' H' v s R' r' => k b μ' q F' H' v (s1.trans s) R' r'⟩
    | false => exact k _ μ1 t1 F1 H1 _ s1 R1 (.bl false)
  | _ => exact t1.elim
theorem de_not {ta : DTE} (ha : DE X a ta) : DE X (.UnaryOp .Not a pos) (dNotV ta) := weakE (pe_not ha) fun σ H Q h => by
  obtain ⟨F, ρ, μ, Q', R, S, t, k⟩ := h
  refine ⟨F, ρ, μ, _, R, S, t, fun d μ1 t1 F1 H1 v s1 R1 r1 => ?_⟩
  cases r1 with
  | bl c => exact ⟨c, rfl, k _ μ1 t1 F1 H1 _ s1 R1 (.bl _)⟩
  | _ => exact t1.elim
abbrev dIf (t : DTT) (ta tb : DTE) : DTE := fun ρ μ Q => t ρ μ fun c μ1 => if c = true then ta ρ μ1 Q else tb ρ μ1 Q
theorem de_ifExp {t : DTT} {ta tb : DTE} (hc : DT X c t) (ha : DE X a ta) (hb : DE X b tb) : DE X (.IfExp c a b pos) (dIf t ta tb) := weakE (pe_ifExp hc ha hb) fun σ H Q h => by
  obtain ⟨F, ρ, μ, Q', R, S, t, k⟩ := h
  refine ⟨F, ρ, μ, _, R, S, t, fun d μ1 t1 F1 H1 s1 R1 => ?_⟩
  cases d with
  | true => exact ⟨F1, ρ, μ1, Q', R1, S.mono s1.ext, t1, fun b μ' q F' H' v s R' r' => k b μ' q F' H' v (s1.trans s) R' r'⟩
  | false => exact ⟨F1, ρ, μ1, Q', R1, S.mono s1.ext, t1, fun b μ' q F' H' v s R' r' => k b μ' q F' H' v (s1.trans s) R' r'⟩
/-- a < b < c -/
abbrev dChain (r r' : DR2) (ta tb tc : DTE) : DTE := fun ρ μ Q => ta ρ μ fun x μ1 => tb ρ μ1 fun y μ2 => r x y μ2 fun z μ3 => match z with
  | .bl true => tc ρ μ3 fun w μ4 => r' y w μ4 Q
  | .bl false => Q (.bl false) μ3
  | _ => False
theorem de_chain {op op' : CmpOp} {r r' : R2} {dr dr' : DR2} {ta tb tc : DTE} (ho : OpR X (compareOp op) r) (hl : LR2 X.K dr r) (ho' : OpR X (compareOp op') r') (hl' : LR2 X.K dr' r') (ha : DE X a ta) (hb : DE X b tb) (hc : DE X c tc) (hm : lastMarks [op, op'] [b, c] = false := by rfl) :
    DE X (.Compare a [op, op'] [b, c] pos) (dChain dr dr' ta tb tc) := weakE (pe_chain ho ho' ha hb hc hm) fun σ H Q h => by
  obtain ⟨F, ρ, μ, Q', R, S, t, k⟩ := h
  refine ⟨F, ρ, μ, _, R, S, t, fun d1 μ1 t1 F1 H1 v1 s1 R1 r1 => ?_⟩
  refine ⟨F1, ρ, μ1, _, R1, S.mono s1.ext, t1, fun d2 μ2 t2 F2 H2 v2 s2 R2 r2 => ?_⟩
  refine hl F2 H2 μ2 v1 v2 d1 d2 _ _ R2 (r1.mono s2.ext) r2 t2 fun d3 μ3 t3 F3 H3 v3 s3 R3 r3 => ?_
  cases r3 with
  | bl z =>
    refine ⟨z, rfl, ?_⟩
    cases z with
    | true =>
      refine ⟨F3, ρ, μ3, _, R3, S.mono ((s1.trans s2).trans s3).ext, t3, fun d4 μ4 t4 F4 H4 v4 s4 R4 r4 => ?_⟩
      exact hl' F4 H4 μ4 v2 v4 d2 d4 Q' Q R4 (r2.mono (s3.trans s4).ext) r4 t4 fun d μ' q F' H' v s R' r' => k d μ' q F' H' v ((((s1.trans s2).trans s3).trans s4).trans s) R' r'
    | false => exact k _ μ3 t3 F3 H3 _ ((s1.trans s2).trans s3) R3 (.bl false)
  | _ => exact t3.elim

abbrev dNil : DTA := fun _ μ Q => Q [] μ
abbrev dCons (te : DTE) (t : DTA) : DTA := fun ρ μ Q => te ρ μ fun x μ1 => t ρ μ1 fun xs μ2 => Q (x :: xs) μ2
theorem da_nil : DA X [] dNil := weakA pa_nil fun σ H Q h => by
  obtain ⟨F, ρ, μ, Q', R, S, t, k⟩ := h
  exact k [] μ t F H [] (Stp.refl F H μ) R .nil
theorem da_cons {te : DTE} {t : DTA} (ha : DE X e te) (hr : DA X es t) (hs : starEach (e :: es) X.env = (false, eval e X.env) :: starEach es X.env := by rfl) : DA X (e :: es) (dCons te t) :=
  weakA (pa_cons ha hr hs) fun σ H Q h => by
    obtain ⟨F, ρ, μ, Q', R, S, t, k⟩ := h
    refine ⟨F, ρ, μ, _, R, S, t, fun d1 μ1 t1 F1 H1 v1 s1 R1 r1 => ?_⟩
    exact ⟨F1, ρ, μ1, _, R1, S.mono s1.ext, t1, fun ds μ2 t2 F2 H2 vs s2 R2 r2 => k _ μ2 t2 F2 H2 _ (s1.trans s2) R2 (.cons (r1.mono s2.ext) r2)⟩
abbrev dTup (t : DTA) : DTE := fun ρ μ Q => t ρ μ fun xs μ1 => xs.length ≤ sizeLine ∧ Q (.tup xs) μ1
abbrev dLst (t : DTA) : DTE := fun ρ μ Q => t ρ μ fun xs μ1 => xs.length ≤ sizeLine ∧ Q (.lst xs) μ1
/-- a list that may change -/
abbrev dLstM (t : DTA) : DTE := fun ρ μ Q => t ρ μ fun xs μ1 => xs.length ≤ sizeLine ∧ ∀ p, μ1 p = none → Q (.ref p) (up μ1 p (.lst xs))
theorem de_tup {t : DTA} {x1} (h : DA X es t) : DE X (.Tuple es x1 pos) (dTup t) := weakE (pe_tup h) fun σ H Q h => by
  obtain ⟨F, ρ, μ, Q', R, S, t, k⟩ := h
  refine ⟨F, ρ, μ, _, R, S, t, fun ds μ1 t1 F1 H1 vs s1 R1 r1 => ⟨by rw [← r1.length]; exact t1.1, fun p hp => ?_⟩⟩
  exact k _ μ1 t1.2 _ _ _ (s1.trans (Stp.newS R1 hp)) (R1.newS hp) (.tup (.inl (.inl upd_same)) (r1.mono (Ext.new (R1.freeF hp))))
theorem de_lst {t : DTA} (h : DA X es t) : DE X (.List es pos) (dLst t) := weakE (pe_lst h) fun σ H Q h => by
  obtain ⟨F, ρ, μ, Q', R, S, t, k⟩ := h
  refine ⟨F, ρ, μ, _, R, S, t, fun ds μ1 t1 F1 H1 vs s1 R1 r1 => ⟨by rw [← r1.length]; exact t1.1, fun p hp => ?_⟩⟩
  exact k _ μ1 t1.2 _ _ _ (s1.trans (Stp.newS R1 hp)) (R1.newS hp) (.lst upd_same (r1.mono (Ext.new (R1.freeF hp))))
theorem de_lstM {t : DTA} (h : DA X es t) : DE X (.List es pos) (dLstM t) := weakE (pe_lst h) fun σ H Q h => by
  obtain ⟨F, ρ, μ, Q', R, S, t, k⟩ := h
  refine ⟨F, ρ, μ, _, R, S, t, fun ds μ1 t1 F1 H1 vs s1 R1 r1 => ⟨by rw [← r1.length]; exact t1.1, fun p hp => ?_⟩⟩
  exact k _ _ (t1.2 p (R1.freeM hp)) _ _ _ (s1.trans (Stp.newM R1 hp)) (R1.newM hp (.lst r1)) (.ref p)
end

section
variable {X : Cx} {pos p : Pos} {a b c e o : Expr} {es : List Expr} {x : Str} {st : Stmt} {rest : List Stmt}
abbrev dNext : DTS := fun D ρ μ => D.nx ρ μ
abbrev dSeq (t u : DTS) : DTS := fun D ρ μ => t { D with nx := u D } ρ μ
theorem dss_nil : DSs X [] dNext := weakSs pss_nil fun D σ H h => by
  obtain ⟨F, ρ, μ, D', R, S, t, k, _⟩ := h
  exact k ρ μ t F H σ (Stp.refl F H μ) R S
theorem dss_cons {t u : DTS} (h1 : DS_ X st t) (h2 : DSs X rest u) : DSs X (st :: rest) (dSeq t u) := weakSs (pss_cons h1 h2) fun D σ H h => by
  obtain ⟨F, ρ, μ, D', R, S, t, k, k2, k3, k4⟩ := h
  exact ⟨F, ρ, μ, _, R, S, t, fun ρ1 μ1 t1 F1 H1 σ1 s1 R1 S1 => ⟨F1, ρ1, μ1, D', R1, S1, t1, fun ρ' μ' q F' H' σ' s => k ρ' μ' q F' H' σ' (s1.trans s), fun d μ' q F' H' v s => k2 d μ' q F' H' v (s1.trans s),
    fun ρ' μ' q F' H' σ' s => k3 ρ' μ' q F' H' σ' (s1.trans s), fun ρ' μ' q F' H' σ' s => k4 ρ' μ' q F' H' σ' (s1.trans s)⟩, k2, k3, k4⟩
theorem dss_one {t : DTS} (h1 : DS_ X st t) : DSs X [st] t := pss_one h1
abbrev dDrop (te : DTE) : DTS := fun D ρ μ => te ρ μ fun _ μ1 => D.nx ρ μ1
theorem ds_expr {te : DTE} (he : DE X e te) (hs : swapsWith e none pos.line X.env = pure false := by rfl) : DS_ X (.Expr e pos) (dDrop te) := weakS (ps_expr he hs) fun D σ H h => by
  obtain ⟨F, ρ, μ, D', R, S, t, k, _⟩ := h
  exact ⟨F, ρ, μ, _, R, S, t, fun d μ1 t1 F1 H1 v s1 R1 r1 => k ρ μ1 t1 F1 H1 σ s1 R1 (S.mono s1.ext)⟩
abbrev dRet (te : DTE) : DTS := fun D ρ μ => te ρ μ D.rt
theorem ds_ret {te : DTE} (he : DE X e te) : DS_ X (.Return (some e) pos) (dRet te) := weakS (ps_ret he) fun D σ H h => by
  obtain ⟨F, ρ, μ, D', R, S, t, _, k, _⟩ := h
  exact ⟨F, ρ, μ, _, R, S, t, k⟩
/-- return of a list that has been filled: from then on it does not change -/
def frz : (SD → Mu → Prop) → SD → Mu → Prop := fun Q d μ => match d with
  | .ref a => match μ a with
    | some (.lst xs) => Q (.lst xs) (rm μ a)
    | some (.dic xs) => Q (.dic xs) (rm μ a)
    | _ => False
  | _ => False
abbrev dRetF (te : DTE) : DTS := fun D ρ μ => te ρ μ (frz D.rt)
theorem ds_retF {te : DTE} (he : DE X e te) : DS_ X (.Return (some e) pos) (dRetF te) := weakS (ps_ret he) fun D σ H h => by
  obtain ⟨F, ρ, μ, D', R, S, t, _, k, _⟩ := h
  refine ⟨F, ρ, μ, _, R, S, t, fun d μ1 t1 F1 H1 v s1 R1 r1 => ?_⟩
  cases r1 with
  | ref z =>
    unfold frz at t1
    simp only at t1
    split at t1
    · rename_i xs hx
      obtain ⟨vs, h1, h2, R2, s2, r2⟩ := R1.freeze hx
      exact k _ _ t1 _ _ _ (s1.trans s2) R2 r2
    · rename_i xs hx
      obtain ⟨vs, h1, R2, s2, r2⟩ := R1.freezeD hx
      exact k _ _ t1 _ _ _ (s1.trans s2) R2 r2
    · exact t1.elim
  | _ => exact t1.elim
abbrev dIfS (c : DTT) (t u : DTS) : DTS := fun D ρ μ => c ρ μ fun b μ1 => if b = true then t D ρ μ1 else u D ρ μ1
theorem ds_if {ss uu : List Stmt} {tc : DTT} {t u : DTS} (hc : DT X c tc) (ha : DSs X ss t) (hb : DSs X uu u) : DS_ X (.If c ss uu pos) (dIfS tc t u) := weakS (ps_if hc ha hb) fun D σ H h => by
  obtain ⟨F, ρ, μ, D', R, S, t, k, k2, k3, k4⟩ := h
  refine ⟨F, ρ, μ, _, R, S, t, fun d μ1 t1 F1 H1 s1 R1 => ?_⟩
  cases d with
  | true => exact ⟨F1, ρ, μ1, D', R1, S.mono s1.ext, t1, fun ρ' μ' q F' H' σ' s => k ρ' μ' q F' H' σ' (s1.trans s), fun d μ' q F' H' v s => k2 d μ' q F' H' v (s1.trans s),
    fun ρ' μ' q F' H' σ' s => k3 ρ' μ' q F' H' σ' (s1.trans s), fun ρ' μ' q F' H' σ' s => k4 ρ' μ' q F' H' σ' (s1.trans s)⟩
  | false => exact ⟨F1, ρ, μ1, D', R1, S.mono s1.ext, t1, fun ρ' μ' q F' H' σ' s => k ρ' μ' q F' H' σ' (s1.trans s), fun d μ' q F' H' v s => k2 d μ' q F' H' v (s1.trans s),
    fun ρ' μ' q F' H' σ' s => k3 ρ' μ' q F' H' σ' (s1.trans s), fun ρ' μ' q F' H' σ' s => k4 ρ' μ' q F' H' σ' (s1.trans s)⟩
abbrev hName (i : Nat) : DTG := fun d ρ μ Q => Q (ρ.set i (some d)) μ
theorem dg_name {i : Nat} (hN : X.N.Nodup) (hi : X.N[i]? = some x) (hx : Loc X.env.scope x) (hf : X.fn x = true ∨ X.env.scope.names.lookup x = some .local := by first | exact .inl rfl | exact .inr rfl | assumption) : DG X (.Name x pos) (hName i) :=
  weakG (pg_name hN hi hx hf) fun v σ H Q h => by
    obtain ⟨F, ρ, μ, d, Q', R, S, r, t, k⟩ := h
    exact k _ μ t F H _ (Stp.refl F H μ) R (S.set i r)
abbrev hNil : DTGs := fun vs ρ μ Q => vs = [] ∧ Q ρ μ
abbrev hCons (t : DTG) (u : DTGs) : DTGs := fun vs ρ μ Q => match vs with
  | v :: r => t v ρ μ fun ρ' μ' => u r ρ' μ' Q
  | [] => False
theorem dgs_nil : DGs X [] hNil := weakGs pgs_nil fun v σ H Q h => by
  obtain ⟨F, ρ, μ, ds, Q', R, S, r, ⟨e, t⟩, k⟩ := h
  subst e
  cases r
  exact ⟨rfl, k ρ μ t F H σ (Stp.refl F H μ) R S⟩
theorem dgs_cons {t : DTG} {u : DTGs} (h1 : DG X e t) (h2 : DGs X es u) (hs : (assignEach (e :: es) X.env).map (·.2) = assign e X.env :: (assignEach es X.env).map (·.2) := by rfl) : DGs X (e :: es) (hCons t u) :=
  weakGs (pgs_cons h1 h2 hs) fun v σ H Q h => by
    obtain ⟨F, ρ, μ, ds, Q', R, S, r, t, k⟩ := h
    cases r with
    | nil => exact t.elim
    | cons r rr =>
      refine ⟨_, _, rfl, F, ρ, μ, _, _, R, S, r, t, fun ρ1 μ1 t1 F1 H1 σ1 s1 R1 S1 => ?_⟩
      exact ⟨F1, ρ1, μ1, _, Q', R1, S1, rr.mono s1.ext, t1, fun ρ' μ' q F' H' σ' s => k ρ' μ' q F' H' σ' (s1.trans s)⟩
abbrev hTup (n : Nat) (t : DTGs) : DTG := fun d ρ μ Q => match d with
  | .tup xs => xs.length = n ∧ t xs ρ μ Q
  | _ => False
theorem dg_tup {k : Nat} {t : DTGs} {n : Nat} (hc : X.calm = true) (h : DGs X es t) (hn : (assignEach es X.env).length = n := by rfl) (hst : (assignEach es X.env).findIdx? (·.1) = none := by rfl) : DG X (.Tuple es k pos) (hTup n t) :=
  weakG (pg_tup hc h hn hst) fun v σ H Q h => by
    obtain ⟨F, ρ, μ, d, Q', R, S, r, t, k⟩ := h
    cases r with
    | tup h r => exact ⟨_, _, rfl, R.ext.sqT h, by rw [← r.length]; exact t.1, F, ρ, μ, _, Q', R, S, r, t.2, k⟩
    | _ => exact t.elim
abbrev dAsg (te : DTE) (g : DTG) : DTS := fun D ρ μ => te ρ μ fun x μ1 => g x ρ μ1 D.nx
theorem liftAsg {K : PySem.W.Frag} {te : DTE} {g : DTG} : ∀ D σ H, LS K (dAsg te g) D σ H → tAsg (LE K te) (LG K g) D σ H := fun D σ H h => by
  obtain ⟨F, ρ, μ, D', R, S, t, k, _⟩ := h
  exact ⟨F, ρ, μ, _, R, S, t, fun d μ1 t1 F1 H1 v s1 R1 r1 => ⟨F1, ρ, μ1, d, _, R1, S.mono s1.ext, r1, t1, fun ρ' μ' q F' H' σ' s => k ρ' μ' q F' H' σ' (s1.trans s)⟩⟩
theorem ds_asg {tg : Expr} {te : DTE} {g : DTG} (he : DE X e te) (hg : DG X tg g) (hs : swapsWithSole [tg] e pos.line X.env = pure false := by rfl) (hw : swappedStores [tg] e X.env = pure none := by rfl)
    (h1 : (assignEach [tg] X.env).map (·.2) = [assign tg X.env] := by rfl) : DS_ X (.Assign [tg] e pos) (dAsg te g) := weakS (ps_asg he hg hs hw h1) liftAsg
abbrev dSet (te : DTE) (i : Nat) : DTS := fun D ρ μ => te ρ μ fun x μ1 => D.nx (ρ.set i (some x)) μ1
theorem ds_set {i : Nat} {te : DTE} {pos' : Pos} (hN : X.N.Nodup) (hi : X.N[i]? = some x) (hx : Loc X.env.scope x) (he : DE X e te) (hs : swapsWith e (some (.Name x pos')) pos.line X.env = pure false := by rfl) (hf : X.fn x = true ∨ X.env.scope.names.lookup x = some .local := by first | exact .inl rfl | exact .inr rfl | assumption) :
    DS_ X (.Assign [.Name x pos'] e pos) (dSet te i) := weakS (ps_set hN hi hx he hs hf) fun D σ H h => by
  obtain ⟨F, ρ, μ, D', R, S, t, k, _⟩ := h
  exact ⟨F, ρ, μ, _, R, S, t, fun d μ1 t1 F1 H1 v s1 R1 r1 => k _ μ1 t1 F1 H1 _ s1 R1 ((S.mono s1.ext).set i r1)⟩
abbrev dPar (i j : Nat) (ta : DTA) : DTS := fun D ρ μ => ta ρ μ fun vs μ1 => match vs with
  | [v, w] => D.nx ((ρ.set i (some v)).set j (some w)) μ1
  | _ => False
theorem ds_par {i j : Nat} {x y : Str} {ta : DTA} {px py pt : Pos} {kt k2 pt2} (hc : X.calm = true) (hN : X.N.Nodup) (hi : X.N[i]? = some x) (hj : X.N[j]? = some y) (hij : i ≠ j)
    (hx : X.env.scope.names.lookup x = some .local) (hy : X.env.scope.names.lookup y = some .local) (ha : DA X [a, b] ta)
    (hw : swappedStores [.Tuple [.Name x px, .Name y py] kt pt] (.Tuple [a, b] k2 pt2) X.env = pure (some [x, y]))
    (hs : swapsWithSole [.Tuple [.Name x px, .Name y py] kt pt] (.Tuple [a, b] k2 pt2) pos.line X.env = pure false := by rfl) :
    DS_ X (.Assign [.Tuple [.Name x px, .Name y py] kt pt] (.Tuple [a, b] k2 pt2) pos) (dPar i j ta) := weakS (ps_par hc hN hi hj hij hx hy ha hw hs) fun D σ H h => by
  obtain ⟨F, ρ, μ, D', R, S, t, k, _⟩ := h
  refine ⟨F, ρ, μ, _, R, S, t, fun ds μ1 t1 F1 H1 vs s1 R1 r1 => ?_⟩
  cases r1 with
  | nil => exact t1.elim
  | cons r1 r2 => cases r2 with
    | nil => exact t1.elim
    | cons r2 r3 => cases r3 with
      | cons _ _ => exact t1.elim
      | nil => exact ⟨_, _, rfl, k _ μ1 t1 F1 H1 _ s1 R1 (((S.mono s1.ext).set i r1).set j r2)⟩
end
end DS
namespace DS
open PySem PySem.Spec PyProof.Rows L2

def lstD (μ : Mu) : SD → Option (List SD)
  | .lst xs => some xs
  | .ref a => match μ a with
    | some (.lst xs) => some xs
    | _ => none
  | _ => none
def seqD (μ : Mu) : SD → Option (List SD)
  | .tup xs => some xs
  | .rol xs => some xs
  | .lst xs => some xs
  | .ref a => match μ a with
    | some (.lst xs) => some xs
    | _ => none
  | _ => none
def isTup : SD → Bool
  | .tup _ => true
  | _ => false
section
variable {K : PySem.W.Frag} {F H : Hp} {μ : Mu} {d : SD} {v : V} {xs : List SD}
theorem HReal.lst (R : HReal K F H μ) (r : RepS K F d v) (e : lstD μ d = some xs) : ∃ a vs, v = .ref a ∧ H a = some (.lst vs) ∧ RepL K F xs vs := by
  cases r with
  | lst h q => cases e; exact ⟨_, _, rfl, R.sub _ _ h, q⟩
  | ref a =>
    unfold lstD at e
    simp only at e
    split at e
    · rename_i ys hy
      cases e
      obtain ⟨_, o, h, q⟩ := R.mus a _ hy
      cases q with
      | lst q => exact ⟨a, _, rfl, h, q⟩
    · cases e
  | _ => cases e
theorem HReal.seq (R : HReal K F H μ) (r : RepS K F d v) (e : seqD μ d = some xs) : ∃ a vs, v = .ref a ∧ RepL K F xs vs ∧ ((isTup d = false ∧ SqL K H a vs) ∨ (isTup d = true ∧ SqT K H a vs)) := by
  cases r with
  | lst h q => cases e; exact ⟨_, _, rfl, q, .inl ⟨rfl, SqL.of (R.sub _ _ h)⟩⟩
  | rol h q => cases e; exact ⟨_, _, rfl, q, .inl ⟨rfl, R.ext.sqL h⟩⟩
  | tup h q => cases e; exact ⟨_, _, rfl, q, .inr ⟨rfl, R.ext.sqT h⟩⟩
  | ref a =>
    unfold seqD at e
    simp only at e
    split at e
    · rename_i ys hy
      cases e
      obtain ⟨_, o, h, q⟩ := R.mus a _ hy
      cases q with
      | lst q => exact ⟨a, _, rfl, q, .inl ⟨rfl, SqL.of h⟩⟩
    · cases e
  | _ => cases e
theorem HReal.seq' (R : HReal K F H μ) (r : RepS K F d v) (e : seqD μ d = some xs) : ∃ a vs, v = .ref a ∧ RepL K F xs vs ∧ (SqL K H a vs ∨ SqT K H a vs) := by
  obtain ⟨a, vs, h1, h2, h3⟩ := R.seq r e
  exact ⟨a, vs, h1, h2, h3.imp And.right And.right⟩
end

def dWhile (c : DTT) (tb : DTS) : DTS := fun D ρ μ => ∃ W : Nat → Rho → Mu → Prop, (∃ m, W m ρ μ) ∧ ∀ m ρ μ, W m ρ μ →
  c ρ μ fun b μ1 => if b = true then ∃ N : Rho → Mu → Prop, (∀ ρ' μ', N ρ' μ' → ∃ m', m' < m ∧ W m' ρ' μ') ∧ tb { D with nx := N, ct := N, bk := D.nx } ρ μ1 else D.nx ρ μ1
section
variable {X : Cx} {pos p : Pos} {a b c e o iter tg : Expr} {es : List Expr} {x : Str} {st : Stmt} {rest body : List Stmt}
theorem ds_while {tc : DTT} {tb : DTS} (hp : PassesOwn (model X.prog X.w) X.A X.env X.xe) (hc : DT X c tc) (hb : DSs X body tb) : DS_ X (.While c body [] pos) (dWhile tc tb) := weakS (ps_while hp hc hb) fun D σ H h => by
  obtain ⟨F0, ρ0, μ0, D', R0, S0, ⟨W, ⟨m0, w0⟩, turn⟩, k, k2, k3, k4⟩ := h
  refine ⟨fun m σ1 H1 => ∃ F ρ μ, Stp F0 H μ0 F H1 μ ∧ HReal X.K F H1 μ ∧ Slots X.K F σ1 ρ ∧ W m ρ μ, ⟨m0, F0, ρ0, μ0, Stp.refl _ _ _, R0, S0, w0⟩, ?_⟩
  rintro m σ1 H1 ⟨F, ρ, μ, s, R, S, w⟩
  refine ⟨F, ρ, μ, _, R, S, turn m ρ μ w, fun b μ1 t1 F1 H2 s1 R1 => ?_⟩
  cases b with
  | false => exact k ρ μ1 t1 F1 H2 σ1 (s.trans s1) R1 (S.mono s1.ext)
  | true =>
    obtain ⟨N, hN, t2⟩ := (show ∃ N : Rho → Mu → Prop, _ from t1)
    refine ⟨fun σ' H' => ∃ F ρ μ, Stp F0 H μ0 F H' μ ∧ HReal X.K F H' μ ∧ Slots X.K F σ' ρ ∧ N ρ μ, ?_, ?_⟩
    · rintro σ' H' ⟨F', ρ', μ', s', R', S', n⟩
      obtain ⟨m', hm, w'⟩ := hN ρ' μ' n
      exact ⟨m', hm, F', ρ', μ', s', R', S', w'⟩
    · refine ⟨F1, ρ, μ1, _, R1, S.mono s1.ext, t2, ?_, ?_, ?_, ?_⟩
      · exact fun ρ' μ' q F' H' σ' s' R' S' => ⟨F', ρ', μ', (s.trans s1).trans s', R', S', q⟩
      · exact fun d μ' q F' H' v s' R' r' => k2 d μ' q F' H' v ((s.trans s1).trans s') R' r'
      · exact fun ρ' μ' q F' H' σ' s' R' S' => k ρ' μ' q F' H' σ' ((s.trans s1).trans s') R' S'
      · exact fun ρ' μ' q F' H' σ' s' R' S' => ⟨F', ρ', μ', (s.trans s1).trans s', R', S', q⟩

structure Src (K : PySem.W.Frag) (F0 H0 : Hp) (μ0 : Mu) (J : It) (ds : List SD) (ok : Mu → Prop) : Prop where
  go : ∀ (i : Nat) (F H : Hp) (μ : Mu), Stp F0 H0 μ0 F H μ → HReal K F H μ → ok μ → i < ds.length → J.go i H
  stop : ∀ (F H : Hp) (μ : Mu), Stp F0 H0 μ0 F H μ → HReal K F H μ → ok μ → J.stop ds.length H
  yld : ∀ (i : Nat) (F H : Hp) (μ : Mu) (x : V) (H' : Hp), Stp F0 H0 μ0 F H μ → HReal K F H μ → ok μ → J.yld i H x H' → ∀ d, ds[i]? = some d → ∃ F', Stp F H μ F' H' μ ∧ HReal K F' H' μ ∧ RepS K F' d x
abbrev DTI := Rho → Mu → (List SD → (Mu → Prop) → Mu → Prop) → Prop
def LI (K : PySem.W.Frag) (t : DTI) : TI := fun σ H R => ∃ F ρ μ Q', HReal K F H μ ∧ Slots K F σ ρ ∧ t ρ μ Q' ∧
  ∀ ds ok μ', Q' ds ok μ' → ∀ F' H' J, Stp F H μ F' H' μ' → HReal K F' H' μ' → Src K F' H' μ' J ds ok → R J H'
abbrev DI (X : Cx) (tg iter : Expr) (t : DTI) : Prop := PI X tg iter (LI X.K t)
theorem weakI {t t' : TI} (h : PI X tg iter t) (w : ∀ σ H R, t' σ H R → t σ H R) : PI X tg iter t' := ⟨fun pins s σ H R I q => h.run pins s σ H R I (w σ H R q)⟩

theorem src_list {K : PySem.W.Frag} {F0 H0 : Hp} {μ0 : Mu} {a : Addr} {ds : List SD} {ok : Mu → Prop} (h : ∀ (F H : Hp) (μ : Mu), Stp F0 H0 μ0 F H μ → HReal K F H μ → ok μ → ∃ vs, SqL K H a vs ∧ RepL K F ds vs) : Src K F0 H0 μ0 (Itl K a) ds ok where
  go := fun i F H μ e R k hi => by
    obtain ⟨vs, h1, h2⟩ := h F H μ e R k
    exact ⟨vs, vs[i]'(by rw [← h2.length]; exact hi), h1, List.getElem?_eq_getElem _⟩
  stop := fun F H μ e R k => by
    obtain ⟨vs, h1, h2⟩ := h F H μ e R k
    exact ⟨vs, h1, by rw [h2.length]; exact Nat.le_refl _⟩
  yld := fun i F H μ x H' e R k y d hd => by
    obtain ⟨vs, h1, h2⟩ := h F H μ e R k
    obtain ⟨rfl, y⟩ := y
    obtain ⟨v, h3, h4⟩ := h2.get hd
    have := y vs h1
    rw [h3] at this; cases this
    exact ⟨F, Stp.refl _ _ _, R, h4⟩
theorem src_tup {K : PySem.W.Frag} {F0 H0 : Hp} {μ0 : Mu} {a : Addr} {ds : List SD} {ok : Mu → Prop} (h : ∀ (F H : Hp) (μ : Mu), Stp F0 H0 μ0 F H μ → HReal K F H μ → ok μ → ∃ vs, SqT K H a vs ∧ RepL K F ds vs) : Src K F0 H0 μ0 (Itt K a) ds ok where
  go := fun i F H μ e R k hi => by
    obtain ⟨vs, h1, h2⟩ := h F H μ e R k
    exact ⟨vs, vs[i]'(by rw [← h2.length]; exact hi), h1, List.getElem?_eq_getElem _⟩
  stop := fun F H μ e R k => by
    obtain ⟨vs, h1, h2⟩ := h F H μ e R k
    exact ⟨vs, h1, by rw [h2.length]; exact Nat.le_refl _⟩
  yld := fun i F H μ x H' e R k y d hd => by
    obtain ⟨vs, h1, h2⟩ := h F H μ e R k
    obtain ⟨rfl, y⟩ := y
    obtain ⟨v, h3, h4⟩ := h2.get hd
    have := y vs h1
    rw [h3] at this; cases this
    exact ⟨F, Stp.refl _ _ _, R, h4⟩
/-- list, tuple or text, whichever it is -/
def iSeq (K : PySem.W.Frag) (tl : TE) : TI := fun σ H R => tl σ H fun x H1 => (∃ a, x = .ref a ∧ (∃ xs, SqL K H1 a xs) ∧ R (Itl K a) H1) ∨ (∃ a, x = .ref a ∧ (∃ xs, SqT K H1 a xs) ∧ R (Itt K a) H1) ∨ ∃ y, x = .str y ∧ R (Its y) H1
theorem pi_seq {l : Expr} {tl : TE} (hl : PE X l tl) : PI X tg l (iSeq X.K tl) := by
  refine ⟨fun pins s σ H R I h => ?_⟩
  refine thn (hl.run pins s σ H _ I h) fun v s1 ⟨x, H1, I1, r1, q1⟩ => ?_
  rcases q1 with ⟨a, e, ⟨xs, hq⟩, q⟩ | ⟨a, e, ⟨xs, hq⟩, q⟩ | ⟨y, e, q⟩
  · subst e
    cases r1
    obtain ⟨its, rv, p, hz⟩ := I1.list hq
    refine wpAny_pyIter_list p.isList ?_
    refine ⟨s1.heap.objs.size, [s1.heap.objs.size], _, _, H1, rfl, I1.kept (t' := s1.toks) fun b o e => Heap.get?_push_of_some _ e, turn_list a _, ⟨_, Heap.get?_push_size _ rfl, rfl, rfl⟩, fun b hb => ?_, q⟩
    have e : b = s1.heap.objs.size := by simpa using hb
    subst e
    exact I1.fpOk (Nat.le_refl _) (I1.hok.fresh (Nat.le_refl _))
  · subst e
    cases r1
    obtain ⟨its, rv, p, hz⟩ := I1.tuple hq
    refine wpAny_pyIter_tuple (show s1.heap.IsTuple a its.toArray from p) ?_
    refine ⟨s1.heap.objs.size, [s1.heap.objs.size], _, _, H1, rfl, I1.kept (t' := s1.toks) fun b o e => Heap.get?_push_of_some _ e, turn_tuple a _, ⟨_, Heap.get?_push_size _ rfl, rfl, rfl⟩, fun b hb => ?_, q⟩
    have e : b = s1.heap.objs.size := by simpa using hb
    subst e
    exact I1.fpOk (Nat.le_refl _) (I1.hok.fresh (Nat.le_refl _))
  · subst e
    obtain ⟨t, rfl⟩ := r1
    cases ha : y.cps.all (· < 128)
    · exact wpAny_pyIter_wide ha (pi_one (tk := s1.toks) I1 _ (turn_str _ y t "str_iterator" (.inr rfl)) ⟨_, Heap.get?_push_size _ rfl, rfl, rfl⟩ q)
    · exact wpAny_pyIter_ascii ha (pi_one (tk := s1.toks) I1 _ (turn_str _ y t "str_ascii_iterator" (.inl rfl)) ⟨_, Heap.get?_push_size _ rfl, rfl, rfl⟩ q)
def chars (y : Str) : List SD := y.cps.toList.map fun c => .str ⟨#[c]⟩
abbrev jSeq (t : DTE) : DTI := fun ρ μ Q => t ρ μ fun d μ1 => match d with
  | .str y => Q (chars y) (fun _ => True) μ1
  | d => match seqD μ1 d with
    | some xs => Q xs (fun μ' => seqD μ' d = some xs) μ1
    | none => False
theorem src_seq {K : PySem.W.Frag} {F H : Hp} {μ : Mu} {d : SD} {v : V} {xs : List SD} (R : HReal K F H μ) (r : RepS K F d v) (e : seqD μ d = some xs) :
    ∃ a, v = .ref a ∧ ((∃ vs, SqL K H a vs) ∧ Src K F H μ (Itl K a) xs (fun μ' => seqD μ' d = some xs) ∨ (∃ vs, SqT K H a vs) ∧ Src K F H μ (Itt K a) xs (fun μ' => seqD μ' d = some xs)) := by
  obtain ⟨a, vs, h1, h2, h3⟩ := R.seq r e
  refine ⟨a, h1, ?_⟩
  subst h1
  rcases h3 with ⟨z, h3⟩ | ⟨z, h3⟩
  · refine .inl ⟨⟨vs, h3⟩, src_list fun F' H' μ' ex R' k => ?_⟩
    obtain ⟨b, ws, q1, q2, q3⟩ := R'.seq (r.mono ex.ext) k
    cases q1
    rcases q3 with ⟨_, q3⟩ | ⟨q, _⟩
    · exact ⟨ws, q3, q2⟩
    · rw [z] at q; cases q
  · refine .inr ⟨⟨vs, h3⟩, src_tup fun F' H' μ' ex R' k => ?_⟩
    obtain ⟨b, ws, q1, q2, q3⟩ := R'.seq (r.mono ex.ext) k
    cases q1
    rcases q3 with ⟨q, _⟩ | ⟨_, q3⟩
    · rw [z] at q; cases q
    · exact ⟨ws, q3, q2⟩
theorem src_str {K : PySem.W.Frag} {F H0 : Hp} {μ0 : Mu} (y : Str) : Src K F H0 μ0 (Its y) (chars y) fun _ => True where
  go := fun i F H μ e R k hi => by
    show i < y.cps.size
    simpa [chars] using hi
  stop := fun F H μ e R k => by
    show y.cps.size ≤ (chars y).length
    simp [chars]
  yld := fun i F H μ x H' e R k yy d hd => by
    obtain ⟨rfl, c, h1, rfl⟩ := yy
    have : (chars y)[i]? = some (.str ⟨#[c]⟩) := by simp [chars, h1]
    rw [this] at hd; cases hd
    exact ⟨F, Stp.refl _ _ _, R, .str _⟩
theorem di_seq {l : Expr} {tl : DTE} (hl : DE X l tl) : DI X tg l (jSeq tl) := weakI (pi_seq hl) fun σ H R h => by
  obtain ⟨F, ρ, μ, Q', R0, S, t, k⟩ := h
  refine ⟨F, ρ, μ, _, R0, S, t, fun d μ1 t1 F1 H1 v s1 R1 r1 => ?_⟩
  have seqCase : ∀ xs, seqD μ1 d = some xs → Q' xs (fun μ' => seqD μ' d = some xs) μ1 → ((∃ a, v = .ref a ∧ (∃ xs, SqL X.K H1 a xs) ∧ R (Itl X.K a) H1) ∨ (∃ a, v = .ref a ∧ (∃ xs, SqT X.K H1 a xs) ∧ R (Itt X.K a) H1) ∨ ∃ y, v = .str y ∧ R (Its y) H1) := fun xs e q => by
    obtain ⟨a, e1, h | h⟩ := src_seq R1 r1 e
    · exact .inl ⟨a, e1, h.1, k _ _ _ q F1 H1 _ s1 R1 h.2⟩
    · exact .inr (.inl ⟨a, e1, h.1, k _ _ _ q F1 H1 _ s1 R1 h.2⟩)
  cases r1 with
  | str y => exact .inr (.inr ⟨y, rfl, k _ _ _ t1 F1 H1 _ s1 R1 (src_str y)⟩)
  | lst h q => exact seqCase _ rfl t1
  | tup h q => exact seqCase _ rfl t1
  | rol h q => exact seqCase _ rfl t1
  | ref b =>
    simp only at t1
    cases e : seqD μ1 (.ref b) with
    | none => rw [e] at t1; exact t1.elim
    | some xs => rw [e] at t1; exact seqCase xs e t1
  | _ => exact t1.elim
abbrev jRng1 (ta : DTA) : DTI := fun ρ μ Q => ta ρ μ fun vs μ1 => match vs with
  | [.int j] => (-(2 ^ 62) ≤ j ∧ j < 2 ^ 62) ∧ Q ((List.range j.toNat).map fun i => .int (i : Nat)) (fun _ => True) μ1
  | _ => False
theorem src_rng {K : PySem.W.Frag} {F H0 : Hp} {μ0 : Mu} (lo : Int) (n : Nat) : Src K F H0 μ0 (Itr lo n) ((List.range n).map fun i => .int (lo + (i : Nat))) fun _ => True where
  go := fun i F H μ e R k hi => by
    show i < n
    simpa using hi
  stop := fun F H μ e R k => by
    show n ≤ _
    simp
  yld := fun i F H μ x H' e R k yy d hd => by
    obtain ⟨rfl, rfl⟩ := yy
    rw [List.getElem?_map] at hd
    by_cases hi : i < n
    · rw [List.getElem?_range hi] at hd
      cases hd
      exact ⟨F, Stp.refl _ _ _, R, .int _⟩
    · rw [List.getElem?_eq_none (by simpa using Nat.le_of_not_lt hi)] at hd; cases hd
theorem di_range1 {ta : DTA} (hg : Gl X "range") (hm : X.mg "range" = none) (ha : DA X [a] ta) (hs : starEach [a] X.env = [(false, eval a X.env)] := by rfl) : DI X tg (.Call (.Name "range" p) [a] [] pos) (jRng1 ta) := weakI (pi_range1 hg hm ha hs) fun σ H R h => by
  obtain ⟨F, ρ, μ, Q', R0, S, t, k⟩ := h
  refine ⟨F, ρ, μ, _, R0, S, t, fun ds μ1 t1 F1 H1 vs s1 R1 r1 => ?_⟩
  cases r1 with
  | nil => exact t1.elim
  | cons r1 r2 => cases r2 with
    | cons _ _ => cases r1 <;> exact t1.elim
    | nil => cases r1 with
      | int j =>
        refine ⟨j, rfl, t1.1.1, t1.1.2, ?_⟩
        have hS := src_rng (K := X.K) (F := F1) (H0 := H1) (μ0 := μ1) 0 j.toNat
        simp only [Int.zero_add] at hS
        exact k _ _ _ t1.2 F1 H1 _ s1 R1 hS
      | _ => exact t1.elim
def enums (xs : List SD) : List SD := xs.mapIdx fun i d => .tup [.int (i : Nat), d]
/-- enumerate of a list -/
abbrev jEnum (ta : DTA) : DTI := fun ρ μ Q => ta ρ μ fun vs μ1 => match vs with
  | [d] => isTup d = false ∧ match seqD μ1 d with
    | some xs => Q (enums xs) (fun μ' => seqD μ' d = some xs) μ1
    | none => False
  | _ => False
theorem src_enum {K : PySem.W.Frag} {F0 H0 : Hp} {μ0 : Mu} {a : Addr} {ds : List SD} {ok : Mu → Prop} (h : ∀ (F H : Hp) (μ : Mu), Stp F0 H0 μ0 F H μ → HReal K F H μ → ok μ → ∃ vs, SqL K H a vs ∧ RepL K F ds vs) : Src K F0 H0 μ0 (Ite K a) (enums ds) ok where
  go := fun i F H μ e R k hi => by
    obtain ⟨vs, h1, h2⟩ := h F H μ e R k
    have : i < vs.length := by rw [← h2.length]; simpa [enums] using hi
    exact ⟨vs, vs[i], h1, List.getElem?_eq_getElem _⟩
  stop := fun F H μ e R k => by
    obtain ⟨vs, h1, h2⟩ := h F H μ e R k
    exact ⟨vs, h1, by rw [← h2.length]; simp [enums]⟩
  yld := fun i F H μ x H' e R k y d hd => by
    obtain ⟨vs, h1, h2⟩ := h F H μ e R k
    obtain ⟨T, z, rfl, hT, rfl, y⟩ := y
    have hz := y vs h1
    obtain ⟨d', h3, h4⟩ := h2.getV hz
    have : (enums ds)[i]? = some (.tup [.int (i : Nat), d']) := by simp [enums, h3]
    rw [this] at hd; cases hd
    have ex : Ext F (upd F T (.tup [.int (i : Nat), z])) := Ext.new (R.freeF hT)
    exact ⟨_, Stp.newS R hT, R.newS hT, .tup (.inl (.inl upd_same)) (.cons (.int _) (.one (h4.mono ex)))⟩
theorem di_enum {ta : DTA} {elts : List Expr} {kk : Nat} {tpos : Pos} (hg : Gl X "enumerate") (hm : X.mg "enumerate" = none) (ha : DA X [e] ta) (hs : starEach [e] X.env = [(false, eval e X.env)] := by rfl) : DI X (.Tuple elts kk tpos) (.Call (.Name "enumerate" p) [e] [] pos) (jEnum ta) := weakI (pi_enum hg hm ha hs) fun σ H R h => by
  obtain ⟨F, ρ, μ, Q', R0, S, t, k⟩ := h
  refine ⟨F, ρ, μ, _, R0, S, t, fun ds μ1 t1 F1 H1 vs s1 R1 r1 => ?_⟩
  cases r1 with
  | nil => exact t1.elim
  | cons r1 r2 => cases r2 with
    | cons _ _ => exact t1.elim
    | nil =>
      rename_i d v
      obtain ⟨tt, t1⟩ := (show isTup d = false ∧ _ from t1)
      cases e : seqD μ1 d with
      | none => rw [e] at t1; exact t1.elim
      | some xs =>
        rw [e] at t1
        obtain ⟨a, ws, q1, q2, q3⟩ := R1.seq r1 e
        subst q1
        rcases q3 with ⟨_, q3⟩ | ⟨q, _⟩
        · refine ⟨a, ws, rfl, q3, k _ _ _ t1 F1 H1 _ s1 R1 (src_enum fun F' H' μ' ex R' kk => ?_)⟩
          obtain ⟨b, ys, p1, p2, p3⟩ := R'.seq (r1.mono ex.ext) kk
          cases p1
          rcases p3 with ⟨_, p3⟩ | ⟨p, _⟩
          · exact ⟨ys, p3, p2⟩
          · rw [tt] at p; cases p
        · rw [tt] at q; cases q
/-- zip of two lists or two tuples -/
def zips (xs ys : List SD) : List SD := List.zipWith (fun x y => SD.tup [x, y]) xs ys
def jZip (ta : DTA) : DTI := fun ρ μ Q => ta ρ μ fun vs μ1 => match vs with
  | [d, f] => isTup d = isTup f ∧ match seqD μ1 d, seqD μ1 f with
    | some xs, some ys => Q (zips xs ys) (fun μ' => seqD μ' d = some xs ∧ seqD μ' f = some ys) μ1
    | _, _ => False
  | _ => False

def dFor (wi : DTI) (g : DTG) (tb : DTS) : DTS := fun D ρ μ => wi ρ μ fun ds ok μ1 => ∃ W : Nat → Rho → Mu → Prop, W 0 ρ μ1 ∧ (∀ i ρ μ, i ≤ ds.length → W i ρ μ → ok μ) ∧
  (∀ i d ρ μ, ds[i]? = some d → W i ρ μ → g d ρ μ fun ρ2 μ2 => tb { D with nx := W (i + 1), ct := W (i + 1), bk := D.nx } ρ2 μ2) ∧ ∀ ρ μ, W ds.length ρ μ → D.nx ρ μ
theorem ds_for {wi : DTI} {g : DTG} {tb : DTS} (hp : PassesOwn (model X.prog X.w) X.A X.env X.xe) (hc : X.calm = true) (hi : DI X tg iter wi) (hg : DG X tg g) (hb : DSs X body tb)
    (hs : ∀ x, foldedSetIterable iter X.env x = pure x := by intro _; rfl) : DS_ X (.For tg iter body [] pos) (dFor wi g tb) := weakS (ps_for hp hc hi hg hb hs) fun D σ H h => by
  obtain ⟨F0, ρ0, μ0, D', R0, S0, t, k, k2, k3, k4⟩ := h
  refine ⟨F0, ρ0, μ0, _, R0, S0, t, fun ds ok μ1 t1 F1 H1 J s1 R1 src => ?_⟩
  obtain ⟨W, w0, hok, turn, fin⟩ := t1
  refine ⟨fun i m σ' H' => i + m = ds.length ∧ ∃ F ρ μ, Stp F1 H1 μ1 F H' μ ∧ HReal X.K F H' μ ∧ Slots X.K F σ' ρ ∧ W i ρ μ, ⟨ds.length, by omega, F1, ρ0, μ1, Stp.refl _ _ _, R1, S0.mono s1.ext, w0⟩, ?_⟩
  rintro i m σ' H' ⟨him, F, ρ, μ, s, R, S, w⟩
  have hle : i ≤ ds.length := by omega
  by_cases hi : i < ds.length
  · refine .inr ⟨src.go i F H' μ s R (hok i ρ μ hle w) hi, fun σ2 H2 => ∃ F ρ μ, Stp F1 H1 μ1 F H2 μ ∧ HReal X.K F H2 μ ∧ Slots X.K F σ2 ρ ∧ W (i + 1) ρ μ, ?_, ?_⟩
    · rintro σ2 H2 ⟨F', ρ', μ', s', R', S', w'⟩
      exact ⟨ds.length - (i + 1), by omega, by omega, F', ρ', μ', s', R', S', w'⟩
    · intro x H2 y
      obtain ⟨F', s', R', r'⟩ := src.yld i F H' μ x H2 s R (hok i ρ μ hle w) y _ (List.getElem?_eq_getElem hi)
      refine ⟨F', ρ, μ, _, _, R', S.mono s'.ext, r', turn i _ ρ μ (List.getElem?_eq_getElem hi) w, fun ρ2 μ2 t2 F2 H3 σ2 s2 R2 S2 => ?_⟩
      refine ⟨F2, ρ2, μ2, _, R2, S2, t2, ?_, ?_, ?_, ?_⟩
      · exact fun ρ' μ' q F'' H'' σ'' s'' R'' S'' => ⟨F'', ρ', μ', ((s.trans s').trans s2).trans s'', R'', S'', q⟩
      · exact fun d μ' q F'' H'' v s'' R'' r'' => k2 d μ' q F'' H'' v (s1.trans (((s.trans s').trans s2).trans s'')) R'' r''
      · exact fun ρ' μ' q F'' H'' σ'' s'' R'' S'' => k ρ' μ' q F'' H'' σ'' (s1.trans (((s.trans s').trans s2).trans s'')) R'' S''
      · exact fun ρ' μ' q F'' H'' σ'' s'' R'' S'' => ⟨F'', ρ', μ', ((s.trans s').trans s2).trans s'', R'', S'', q⟩
  · have e : i = ds.length := by omega
    subst e
    exact .inl ⟨src.stop F H' μ s R (hok _ ρ μ hle w), k ρ μ (fin ρ μ w) F H' σ' (s1.trans s) R S⟩

def wipeR (ρ : Rho) : List Nat → Rho
  | [] => ρ
  | v :: vs => (wipeR ρ vs).set v none
theorem Slots.setN {K : PySem.W.Frag} {F : Hp} {σ : L2.St} {ρ : Rho} (h : Slots K F σ ρ) (i : Nat) : Slots K F (σ.set i none) (ρ.set i none) := by
  refine ⟨by simp [h.len], fun j e q => ?_⟩
  by_cases hj : j = i
  · subst hj
    by_cases hl : j < ρ.length
    · rw [List.getElem?_set_self hl] at q; cases q
    · rw [List.getElem?_eq_none (by simpa using Nat.le_of_not_lt hl)] at q; cases q
  · rw [List.getElem?_set_ne (Ne.symm hj)] at q ⊢
    exact h.at_ j e q
theorem Slots.wipe {K : PySem.W.Frag} {F : Hp} {σ : L2.St} {ρ : Rho} (h : Slots K F σ ρ) : ∀ vs : List Nat, Slots K F (wipe σ vs) (wipeR ρ vs)
  | [] => h
  | v :: vs => (Slots.wipe h vs).setN v
theorem wipe_set (σ : L2.St) (v : Option V) : ∀ {vs : List Nat} {i : Nat}, i ∈ vs → wipe (σ.set i v) vs = wipe σ vs
  | w :: vs, i, h => by
    by_cases e : i ∈ vs
    · show (wipe (σ.set i v) vs).set w none = (wipe σ vs).set w none
      rw [wipe_set σ v e]
    · have e2 : i = w := by
        rcases List.mem_cons.mp h with z | z
        · exact z
        · exact absurd z e
      subst e2
      show (wipe (σ.set i v) vs).set i none = (wipe σ vs).set i none
      have : ∀ ws : List Nat, i ∉ ws → wipe (σ.set i v) ws = (wipe σ ws).set i v := by
        intro ws
        induction ws with
        | nil => intro _; rfl
        | cons a r ih =>
          intro hn
          have ha : i ≠ a := fun z => hn (by rw [z]; exact List.mem_cons_self)
          show (wipe (σ.set i v) r).set a none = ((wipe σ r).set a none).set i v
          rw [ih (fun z => hn (List.mem_cons_of_mem _ z)), List.set_comm _ _ ha]
      rw [this vs e, List.set_set]
end
end DS
namespace DS
open PySem PySem.Spec PyProof.Rows L2

/-- nothing that guards itself against going round runs -/
abbrev Quiet (A : Around) : Prop := A.guards = some []
/-- a def's promise, asked only where it is quiet -/
structure FnG (P : Program) (w : World) (K : PySem.W.Frag) (mg : Str → Option Value) (base : Heap) (CX : CXT) (k : Nat) (f : Addr) (fd : FuncData) (ps : List Str) (sp : Sp) : Prop where
  len : ∀ vs H Q E, sp vs H Q E → vs.length = ps.length
  go : ∀ (A : Around) (outer : List Env) (s : Shared) (H : Hp) (args : Args) (us : List Value) (vs : List V) (Q : VK) (E : XK), Quiet A → Room k A → Env0 P w K mg base A outer s H → BindsTo s fd args (ps.zip us) → Vals vs us → sp vs H Q E →
    codeAny (model P w) A (.call (.ref f) args) (CR CX outer P w H s Q E) s
section
variable {P : Program} {w : World} {K : PySem.W.Frag} {mg : Str → Option Value} {base : Heap} {CX : CXT} {j k : Nat} {f C : Addr} {fd : FuncData} {ps : List Str} {sp : Sp}
theorem FnG.of (F : FnOk P w K mg base CX k f fd ps sp) : FnG P w K mg base CX k f fd ps sp := ⟨F.len, fun A outer s H args us vs Q E _ => F.run A outer s H args us vs Q E⟩
theorem FnG.mono (F : FnG P w K mg base CX j f fd ps sp) (h : j ≤ k) : FnG P w K mg base CX k f fd ps sp := ⟨F.len, fun A outer s H args us vs Q E g r => F.go A outer s H args us vs Q E g (r.mono h)⟩
theorem FnG.imp {sp' : Sp} (F : FnG P w K mg base CX k f fd ps sp) (h : ∀ vs H Q E, sp' vs H Q E → sp vs H Q E) : FnG P w K mg base CX k f fd ps sp' :=
  ⟨fun vs H Q E q => F.len vs H Q E (h vs H Q E q), fun A outer s H args us vs Q E g r e b v q => F.go A outer s H args us vs Q E g r e b v (h vs H Q E q)⟩
/-- a promise that holds nowhere costs nothing: for induction on levels -/
theorem FnG.no (f : Addr) (fd : FuncData) (ps : List Str) : FnG P w K mg base CX k f fd ps (fun _ _ _ _ => False) := ⟨fun _ _ _ _ h => False.elim h, fun _ _ _ _ _ _ _ _ _ _ _ _ _ _ h => False.elim h⟩
end
theorem quiet_make {A : Around} (h : Quiet A) (C : Addr) (us : List Value) (kw : List (Str × Value)) : Quiet (A.under (.builtin "type.__call__" ⟨.ref C :: us, kw⟩)) := by
  have e : (Code.builtin "type.__call__" ⟨.ref C :: us, kw⟩).guards = [] := by
    unfold Code.guards
    rw [if_neg]
    simp [Code.isGuard, guardIds]
  show pushGuards (Code.builtin "type.__call__" ⟨.ref C :: us, kw⟩).guards A.guards = some []
  rw [e]
  exact h

section
variable {CX : CXT} {P : Program} {w : World} {K : PySem.W.Frag} {mg : Str → Option Value} {base : Heap}
/-- the def's body, walked where it is quiet -/
theorem fnG_of {k : Nat} {f : Addr} {name qual : Str} {params : Arguments} {body : List Stmt} {scope : Scope} {dV kV doc pm cdv ct oc : Value} {an od : Option Addr} {osl : Array (Option Value)} {N ps : List Str} {sp : Sp}
    (lk : K.lookup f = some ⟨oc, od, .func (PySem.W.fnOf name qual params body scope dV kV doc pm an cdv ct), osl⟩) (hcd : PySem.W.codeIn K cdv qual = true) (S : FnScope N ps scope) (len : ∀ vs H Q E, sp vs H Q E → vs.length = ps.length)
    (walk : ∀ (A : Around) (outer : List Env) (s : Shared) (H : Hp) (vs : List V) (Q : VK) (E : XK), Quiet A → Room k (A.deeper (envOfC qual scope s.heap.objs.size f cdv)) → sp vs H Q E →
      ∃ t, PSs (cxOf CX P w K mg base N qual scope f cdv A outer s H E) body t ∧ t { nx := fun _ H' => Q .non H', rt := Q } (L2.start N vs) H) :
    FnG P w K mg base CX (k + 1) f (PySem.W.fnOf name qual params body scope dV kV doc pm an cdv ct) ps sp where
  len := len
  go := fun A outer s H args us vs Q E quiet room e0 binds rel want => by
    have count := len vs H Q E want
    have old := fun b o e => (e0.bs b o e).1
    have here : K.In s.heap := e0.mod.kin.keeps old
    have kinds : ∀ y ∈ ps.zip us, scope.names.lookup y.1 = some .local ∨ (scope.names.lookup y.1 = some .cell ∧ ((cellsFrom (s.heap.objs.size + 1) scope.names []).lookup y.1).isSome = true) := by
      rintro ⟨n, v⟩ hy
      exact (S.par n (List.of_mem_zip hy).1).imp id fun z => ⟨z, PySem.W.cellsFrom_some _ _ _ (.inl z)⟩
    refine codeAny_call_function room.depth (here _ _ lk) rfl S.co S.gen rfl (PySem.W.codeRec_of here hcd) (binds _ _ _ _ ?_)
    refine wpAny_newFunctionEnv_cells S.kind kinds fun env he s1 within => ?_
    subst he
    refine ⟨(e0.mod.nolimit.keeps old).keeps within.toInCall.keep, codeAny_func ?_⟩
    obtain ⟨t, walked, read⟩ := walk A outer s H vs Q E quiet (room.deeper _) want
    have I := inv_start (CX := CX) (E := E) S room.hd e0 count rel within
    refine wpAny_mono (walked.run [] s1 (start N vs) H _ I read) (fun out s' got => ?_) fun _ _ z => z
    have done : ∀ {σ' : L2.St} {H' : Hp} {v : V} {u : Value}, Inv (cxOf CX P w K mg base N qual scope f cdv A outer s H E) [] σ' H' s' → RelV v u → Q v H' → CE outer P w H s Q u s' :=
      fun {_ H' v _} J rv q => ⟨v, H', J.os, J.bare, J.base, J.hok, rv, q⟩
    match out, got with
    | .ret u, ⟨v, _, _, J, rv, q⟩ => exact done J rv q
    | .next, ⟨_, _, J, q⟩ => exact done (v := V.non) (u := Value.none) J rfl q
    | .brk, ⟨_, _, _, q⟩ => exact False.elim q
    | .cont, ⟨_, _, _, q⟩ => exact False.elim q
end

section
variable {X : Cx} {CX : CXT} {k : Nat} {f C : Addr} {fd : FuncData} {ps ks : List Str} {sp : Sp} {dvs : List V} {ds : List Value} {E : XK} {x m : Str} {p pos apos : Pos} {e o : Expr} {es : List Expr} {kws : List Keyword} {ta : TE} {t tk : TA}
def GEnd (X : Cx) (pins : List (Addr × Obj)) (σ : L2.St) (Q : VK) : Result → Shared → Prop
  | .ok (.ret u), s' => EP X pins σ Q u s'
  | .ok _, _ => False
  | .error u, s' => X.xe u s'
theorem run_g {pins : List (Addr × Obj)} {σ : L2.St} {H : Hp} {s : Shared} {Q : VK} {us : List Value} {vs : List V} {args : Args} (F : FnG X.prog X.w X.K X.mg X.base CX k f fd ps sp) (hq : Quiet X.A) (hr : Room k X.A) (hx : Passes CX X E)
    (I : Inv X pins σ H s) (hb : BindsTo s fd args (ps.zip us)) (r : Vals vs us) (h : sp vs H Q E) : codeAny (model X.prog X.w) X.A (.call (.ref f) args) (GEnd X pins σ Q) s := by
  refine codeAny_mono (F.go X.A X.stack s H args us vs Q E hq hr I.env0 hb r h) fun out s' z => ?_
  match out, z with
  | .error u, z => exact hx pins σ H s u s' I z
  | .ok (.ret u), z => exact I.after z
  | .ok .next, z => exact False.elim z
  | .ok .brk, z => exact False.elim z
  | .ok .cont, z => exact False.elim z
theorem call_g {pins : List (Addr × Obj)} {σ : L2.St} {H : Hp} {s : Shared} {Q : VK} {us : List Value} {vs : List V} (F : FnG X.prog X.w X.K X.mg X.base CX k f fd ps sp) (hq : Quiet X.A) (hr : Room k X.A) (hb : Binds X.K fd ps ds) (hd : Vals dvs ds) (hx : Passes CX X E)
    (I : Inv X pins σ H s) (r : Vals vs us) (h : sp (vs ++ dvs) H Q E) : wpAny (model X.prog X.w) X.A (call (.ref f) us) (EP X pins σ Q) X.xe s := by
  have r2 := r.append hd
  have count : (us ++ ds).length = ps.length := r2.length.symm.trans (F.len _ _ _ _ h)
  refine wpAny_call (codeAny_mono (run_g (args := ⟨us, []⟩) F hq hr hx I (hb s us I.kIn count) r2 h) fun out s' z => ?_)
  match out, z with
  | .error _, z => exact z
  | .ok (.ret _), z => exact z
  | .ok .next, z => exact False.elim z
  | .ok .brk, z => exact False.elim z
  | .ok .cont, z => exact False.elim z
/-- f(e, ..) -/
theorem pe_g (F : FnG X.prog X.w X.K X.mg X.base CX k f fd ps sp) (hq : Quiet X.A) (hr : Room k X.A) (hg : Gl X x) (hm : X.mg x = some (.ref f)) (hk : PySem.W.keepIn X.K (.ref f) = true) (hb : Binds X.K fd ps ds) (hd : Vals dvs ds) (hx : Passes CX X E)
    (ha : PA X (e :: es) t) (hdb : (x == ("__debug__" : Str)) = false := by decide) (he : starEach (e :: es) X.env = (false, eval e X.env) :: starEach es X.env := by rfl) (hpl : (backTo pos (starEach es X.env)).any (·.1) = false := by rfl) :
    PE X (.Call (.Name x p) (e :: es) [] pos) (tCall sp dvs E t) :=
  ⟨fun pins s σ H Q I h => wpAny_Call_Name_kw (ld_glob I hg hm (PySem.W.callWith_K (h₀ := X.base) I.ok.mod.kin hk (thn (ha.run pos pins s σ H _ I h) fun _ _ ⟨_, _, I1, r, q⟩ => ⟨I1.kIn, call_g F hq hr hb hd hx I1 r q⟩) he hpl) hdb)⟩
end

abbrev DSp := List SD → Mu → (SD → Mu → Prop) → DXK → Prop
/-- the own dict of an exception, by what it holds -/
def XRep (K : PySem.W.Frag) (F H : Hp) (od : Option Addr) (fs : List (Str × SD)) : Prop :=
  (od = none ∧ fs = []) ∨ ∃ d vs, od = some d ∧ H d = some (.xd vs) ∧ vs.map (·.1) = fs.map (·.1) ∧ RepL K F (fs.map (·.2)) (vs.map (·.2))
def LSp (K : PySem.W.Frag) (sp : DSp) : Sp := fun vs H Q E => ∃ F μ ds Q' E', HReal K F H μ ∧ RepL K F ds vs ∧ sp ds μ Q' E' ∧
  (∀ d μ', Q' d μ' → ∀ F' H' v, Stp F H μ F' H' μ' → HReal K F' H' μ' → RepS K F' d v → Q v H') ∧
  (∀ C fs μ', E' C fs μ' → ∀ F' H' od, Stp F H μ F' H' μ' → HReal K F' H' μ' → XRep K F' H' od fs → E (.ref C) od H')
abbrev dCall (sp : DSp) (dvs : List SD) (t : DTA) : DTE := fun ρ μ Q => t ρ μ fun ds μ1 => sp (ds ++ dvs) μ1 Q fun _ _ _ => False
section
variable {X : Cx} {k : Nat} {f C : Addr} {fd : FuncData} {ps ks : List Str} {sp : DSp} {dvs : List SD} {dvV : List V} {dv : List Value} {x m : Str} {p pos apos : Pos} {a e o : Expr} {es : List Expr} {kws : List Keyword} {ta : DTE} {t tk : DTA}
theorem RepL.plain {K : PySem.W.Frag} {F : Hp} : ∀ {ds : List SD} {vs : List V}, Paired (fun d v => plain d = some v) ds vs → RepL K F ds vs
  | _, _, .nil => .nil
  | _, _, .cons h r => .cons (RepS.plain h) (RepL.plain r)
/-- a call of a def that lets nothing out -/
theorem de_call {CX : CXT} (F : FnG X.prog X.w X.K X.mg X.base CX k f fd ps (LSp X.K sp)) (hq : Quiet X.A) (hr : Room k X.A) (hg : Gl X x) (hm : X.mg x = some (.ref f)) (hk : PySem.W.keepIn X.K (.ref f) = true) (hb : Binds X.K fd ps []) (hx : Passes CX X E0)
    (ha : DA X (e :: es) t) (hdb : (x == ("__debug__" : Str)) = false := by decide) (he : starEach (e :: es) X.env = (false, eval e X.env) :: starEach es X.env := by rfl) (hpl : (backTo pos (starEach es X.env)).any (·.1) = false := by rfl) :
    DE X (.Call (.Name x p) (e :: es) [] pos) (dCall sp [] t) := weakE (pe_g (E := E0) F hq hr hg hm hk hb .nil hx ha hdb he hpl) fun σ H Q h => by
  obtain ⟨F, ρ, μ, Q', R, S, t, k⟩ := h
  refine ⟨F, ρ, μ, _, R, S, t, fun ds μ1 t1 F1 H1 vs s1 R1 r1 => ?_⟩
  refine ⟨F1, μ1, ds, Q', _, R1, by rw [List.append_nil]; exact r1, by rw [List.append_nil] at t1; exact t1, fun d μ' q F' H' v s R' r' => k d μ' q F' H' v (s1.trans s) R' r', fun _ _ _ q => False.elim q⟩
end

/-- the slots at a def's entry -/
def begin_ (N : List Str) (ds : List SD) : Rho := ds.map some ++ List.replicate (N.length - ds.length) none
theorem slots_begin {K : PySem.W.Frag} {F : Hp} {N : List Str} {ds : List SD} {vs : List V} (r : RepL K F ds vs) : Slots K F (L2.start N vs) (begin_ N ds) := by
  have hl := r.length
  refine ⟨by simp [L2.start, begin_, hl], fun i d e => ?_⟩
  unfold begin_ at e
  by_cases hi : i < ds.length
  · rw [List.getElem?_append_left (by simpa using hi), List.getElem?_map] at e
    cases q : ds[i]? with
    | none => rw [q] at e; cases e
    | some d' =>
      rw [q] at e
      cases e
      obtain ⟨v, h1, h2⟩ := r.get q
      refine ⟨v, ?_, h2⟩
      unfold L2.start
      rw [List.getElem?_append_left (by simpa [← hl] using hi), List.getElem?_map, h1]
      rfl
  · rw [List.getElem?_append_right (by simpa using Nat.le_of_not_lt hi), List.getElem?_replicate] at e
    split at e <;> cases e
section
variable {P : Program} {w : World} {K : PySem.W.Frag} {mg : Str → Option Value} {base : Heap}
/-- a def that lets nothing out -/
theorem def_ok {x qual : Str} {st : Stmt} {f : Addr} {fd : FuncData} {N ps : List Str} {k : Nat} {sp : DSp} (F : Fun K x qual st f fd) (S : FnScope N ps (defScope st)) (t : DTS) (len : ∀ ds μ Q E, sp ds μ Q E → ds.length = ps.length)
    (walk : ∀ (cdv : Value) (A : Around) (outer : List Env) (s : Shared) (H : Hp) (E : XK), Quiet A → Room k (A.deeper (envOfC qual (defScope st) s.heap.objs.size f cdv)) →
      DSs (cxOf CX0 P w K mg base N qual (defScope st) f cdv A outer s H E).nox (defBody st) t)
    (read : ∀ ds μ Q E, sp ds μ Q E → t { nx := fun _ μ' => Q .non μ', rt := Q } (begin_ N ds) μ) : FnG P w K mg base CX0 (k + 1) f fd ps (LSp K sp) := by
  obtain ⟨oc, od, kV, doc, pm, an, cdv, ct, osl, rfl, lk, hcd⟩ := F.ex
  refine fnG_of lk hcd S (fun vs H Q E h => ?_) fun A outer s H vs Q E quiet room want => ?_
  · obtain ⟨F, μ, ds, Q', E', _, r, q, _⟩ := h
    rw [← r.length]; exact len ds μ Q' E' q
  · obtain ⟨F, μ, ds, Q', E', R, r, q, k1, _⟩ := want
    refine ⟨_, (walk cdv A outer s H E quiet room).nox, F, begin_ N ds, μ, _, R, slots_begin r, read ds μ Q' E' q, ?_, k1, fun _ _ z => False.elim z, fun _ _ z => False.elim z⟩
    exact fun ρ' μ' q F' H' σ' s' R' _ => k1 .non μ' q F' H' .non s' R' .non
end
end DS
namespace DS
open PySem PySem.Spec PyProof.Rows L2

section
variable {K : PySem.W.Frag} {F H : Hp} {μ : Mu} {p : Addr}
theorem HReal.aside (R : HReal K F H μ) {o : HO} (hF : F p = none) (hM : μ p = none) : HReal K F (upd H p o) μ :=
  ⟨fun a u e => by rw [upd_ne (ne_of_none e hF)]; exact R.sub a u e, fun a m e => by
    obtain ⟨z, u, q, r⟩ := R.mus a m e
    exact ⟨z, u, by rw [upd_ne (mu_ne e hM)]; exact q, r⟩⟩
theorem HReal.adopt (R : HReal K F H μ) {o : HO} (hF : F p = none) (hM : μ p = none) (hH : H p = some o) : HReal K (upd F p o) H μ :=
  ⟨fun a u e => by
    by_cases ha : a = p
    · subst ha; rw [upd_same] at e; cases e; exact hH
    · rw [upd_ne ha] at e; exact R.sub a u e, fun a m e => by
    obtain ⟨z, u, q, r⟩ := R.mus a m e
    exact ⟨by rw [upd_ne (mu_ne e hM)]; exact z, u, q, r.mono (Ext.new hF)⟩⟩
end

/-- a target that touches own slots alone, with its datum's reading -/
structure OwnG (K : PySem.W.Frag) (g : TG) (dg : DTG) (vs : List Nat) : Prop where
  lift : ∀ v σ H Q F ρ μ d Q', HReal K F H μ → Slots K F σ ρ → RepS K F d v → dg d ρ μ Q' →
    (∀ ρ' μ', Q' ρ' μ' → ∀ F' H' σ', Stp F H μ F' H' μ' → HReal K F' H' μ' → Slots K F' σ' ρ' → wipe σ' vs = wipe σ vs → Q σ' H') → g v σ H Q
theorem own_name {K : PySem.W.Frag} {i : Nat} {vs : List Nat} (h : i ∈ vs) : OwnG K (gName i) (hName i) vs :=
  ⟨fun v σ H Q F ρ μ d Q' R S r t k => k _ μ t F H _ (Stp.refl F H μ) R (S.set i r) (wipe_set σ _ h)⟩
def hNames : List Nat → DTGs
  | [] => hNil
  | i :: r => hCons (hName i) (hNames r)
def gNames : List Nat → TGs
  | [] => gNil
  | i :: r => gCons (gName i) (gNames r)
theorem own_names {K : PySem.W.Frag} {F H : Hp} {μ : Mu} {vs : List Nat} (R : HReal K F H μ) : ∀ (is : List Nat), (∀ i ∈ is, i ∈ vs) → ∀ (xs : List V) (ds : List SD) (σ : L2.St) (ρ : Rho) (Q : L2.St → Hp → Prop) (Q' : Rho → Mu → Prop),
    Slots K F σ ρ → RepL K F ds xs → hNames is ds ρ μ Q' → (∀ ρ' μ', Q' ρ' μ' → ∀ F' H' σ', Stp F H μ F' H' μ' → HReal K F' H' μ' → Slots K F' σ' ρ' → wipe σ' vs = wipe σ vs → Q σ' H') → gNames is xs σ H Q
  | [], _, xs, ds, σ, ρ, Q, Q', S, r, t, k => by
    obtain ⟨rfl, t⟩ := t
    cases r
    exact ⟨rfl, k ρ μ t F H σ (Stp.refl F H μ) R S rfl⟩
  | i :: is, h, xs, ds, σ, ρ, Q, Q', S, r, t, k => by
    cases r with
    | nil => exact False.elim t
    | cons r rr =>
      refine ⟨_, _, rfl, own_names R is (fun j hj => h j (List.mem_cons_of_mem _ hj)) _ _ _ _ Q Q' (S.set i r) rr t fun ρ' μ' q F' H' σ' s R' S' e => ?_⟩
      exact k ρ' μ' q F' H' σ' s R' S' (e.trans (wipe_set σ _ (h i List.mem_cons_self)))
theorem own_tup {K : PySem.W.Frag} {n : Nat} {is vs : List Nat} (h : ∀ i ∈ is, i ∈ vs) : OwnG K (gTup K n (gNames is)) (hTup n (hNames is)) vs :=
  ⟨fun v σ H Q F ρ μ d Q' R S r t k => by
    cases r with
    | tup hh r => exact ⟨_, _, rfl, R.ext.sqT hh, by rw [← r.length]; exact t.1, own_names R is h _ _ σ ρ Q Q' S r t.2 k⟩
    | _ => exact False.elim t⟩
def dLc (wi : DTI) (g : DTG) (tt : DTT) (te : DTE) (vs : List Nat) : Rho → Mu → (List SD → Mu → Prop) → Prop := fun ρ μ Q => wi ρ μ fun ds ok μ1 => ds.length ≤ sizeLine ∧ ∃ W : Nat → List SD → Mu → Prop, W 0 [] μ1 ∧
  (∀ i acc μ, i ≤ ds.length → W i acc μ → ok μ) ∧ (∀ i d acc μ, ds[i]? = some d → W i acc μ → g d (wipeR ρ vs) μ fun ρ2 μ2 => tt ρ2 μ2 fun b μ3 => if b = true then te ρ2 μ3 fun y μ4 => W (i + 1) (acc ++ [y]) μ4 else W (i + 1) acc μ3) ∧
  ∀ acc μ, W ds.length acc μ → Q acc μ
/-- the new list will not change | may change -/
def dLcS (wi : DTI) (g : DTG) (tt : DTT) (te : DTE) (vs : List Nat) : DTE := fun ρ μ Q => dLc wi g tt te vs ρ μ fun acc μ' => Q (.lst acc) μ'
theorem liftLc {K : PySem.W.Frag} {wi : DTI} {g : TG} {dg : DTG} {tt : DTT} {te : DTE} {vs : List Nat} (og : OwnG K g dg vs) {σ : L2.St} {H F : Hp} {ρ : Rho} {μ : Mu} {Q : VK} {Q' : List SD → Mu → Prop} (R : HReal K F H μ) (S : Slots K F σ ρ) (t : dLc wi dg tt te vs ρ μ Q')
    (k : ∀ acc μ', Q' acc μ' → ∀ F' H' p ws, Stp F H μ F' H' μ' → HReal K F' H' μ' → F' p = none → μ' p = none → H' p = some (.lst ws) → RepL K F' acc ws → (∀ a, H a ≠ none → F a = none → μ a = none → a ≠ p) → Q (.ref p) H') : tLc (LI K wi) g (LT K tt) (LE K te) vs σ H Q := by
  refine ⟨F, ρ, μ, _, R, S, t, fun ds ok μ1 t1 F1 H1 J s1 R1 src D hD => ?_⟩
  obtain ⟨hlen, W, w0, hok, turn, fin⟩ := t1
  have hDF := R1.freeF hD
  have hDM := R1.freeM hD
  refine ⟨fun i m H' => i + m = ds.length ∧ ∃ F μ acc ws, Stp F1 H1 μ1 F H' μ ∧ HReal K F H' μ ∧ F D = none ∧ μ D = none ∧ H' D = some (.lst ws) ∧ RepL K F acc ws ∧ acc.length ≤ i ∧ W i acc μ, ⟨ds.length, by omega, F1, μ1, [], [], ?_, R1.aside hDF hDM, hDF, hDM, upd_same, .nil, Nat.le_refl _, w0⟩, ?_⟩
  · exact ⟨Ext.refl _, fun a h1 h2 h3 => ⟨upd_ne (fun z => by subst z; exact h1 hD), h2, h3⟩⟩
  rintro i m H' ⟨him, F2, μ2, acc, ws, s2, R2, f2, m2, hH2, r2, hacc, w2⟩
  have hle : i ≤ ds.length := by omega
  by_cases hi : i < ds.length
  · refine .inr ⟨src.go i F2 H' μ2 s2 R2 (hok i acc μ2 hle w2) hi, fun H3 => ∃ F μ acc ws, Stp F1 H1 μ1 F H3 μ ∧ HReal K F H3 μ ∧ F D = none ∧ μ D = none ∧ H3 D = some (.lst ws) ∧ RepL K F acc ws ∧ acc.length ≤ i + 1 ∧ W (i + 1) acc μ, ?_, ?_⟩
    · rintro H3 ⟨F3, μ3, acc3, ws3, z⟩
      exact ⟨ds.length - (i + 1), by omega, by omega, F3, μ3, acc3, ws3, z⟩
    · intro x H3 y
      obtain ⟨F3, s3, R3, r3⟩ := src.yld i F2 H' μ2 x H3 s2 R2 (hok i acc μ2 hle w2) y _ (List.getElem?_eq_getElem hi)
      obtain ⟨e3, f3, m3⟩ := s3.fr D (by rw [hH2]; exact fun z => nomatch z) f2 m2
      have S3 : Slots K F3 (wipe σ vs) (wipeR ρ vs) := ((S.mono (s1.ext.trans s2.ext)).mono s3.ext).wipe vs
      refine og.lift x _ H3 _ F3 _ μ2 _ _ R3 S3 r3 (turn i _ acc μ2 (List.getElem?_eq_getElem hi) w2) fun ρ4 μ4 t4 F4 H4 σ4 s4 R4 S4 e4 => ⟨e4.trans ?_, ?_⟩
      · have idem : ∀ (τ : L2.St) (us : List Nat), (∀ i ∈ us, τ[i]? = none ∨ τ[i]? = some none) → wipe τ us = τ := by
          intro τ us
          induction us with
          | nil => intro _; rfl
          | cons a r ih =>
            intro hz
            show (wipe τ r).set a none = τ
            rw [ih fun i hi => hz i (List.mem_cons_of_mem _ hi)]
            rcases hz a List.mem_cons_self with q | q
            · exact List.set_eq_of_length_le (List.getElem?_eq_none_iff.mp q)
            · apply List.ext_getElem?
              intro j
              by_cases hj : j = a
              · subst hj
                obtain ⟨hl, _⟩ := List.getElem?_eq_some_iff.mp q
                rw [List.getElem?_set_self hl, q]
              · rw [List.getElem?_set_ne (Ne.symm hj)]
        refine idem _ _ fun i hi => ?_
        have done : ∀ (us : List Nat), i ∈ us → (wipe σ us)[i]? = none ∨ (wipe σ us)[i]? = some none := by
          intro us
          induction us with
          | nil => intro h; cases h
          | cons a r ih =>
            intro h
            show ((wipe σ r).set a none)[i]? = none ∨ ((wipe σ r).set a none)[i]? = some none
            by_cases e : a = i
            · subst e
              by_cases hl : a < (wipe σ r).length
              · exact .inr (List.getElem?_set_self hl)
              · exact .inl (List.getElem?_eq_none (by simpa using Nat.le_of_not_lt hl))
            · rw [List.getElem?_set_ne e]
              exact ih ((List.mem_cons.mp h).resolve_left (fun z => e z.symm))
        exact done vs hi
      · obtain ⟨e5, f5, m5⟩ := s4.fr D (by rw [e3, hH2]; exact fun z => nomatch z) f3 m3
        refine ⟨F4, ρ4, μ4, _, R4, S4, t4, fun b μ6 t6 F6 H6 s6 R6 => ?_⟩
        obtain ⟨e7, f7, m7⟩ := s6.fr D (by rw [e5, e3, hH2]; exact fun z => nomatch z) f5 m5
        have at6 : H6 D = some (.lst ws) := by rw [e7, e5, e3, hH2]
        have st6 := ((s2.trans s3).trans s4).trans s6
        have ext6 : Ext F2 F6 := (s3.ext.trans s4.ext).trans s6.ext
        cases b with
        | false => exact ⟨F6, μ6, acc, ws, st6, R6, f7, m7, at6, r2.mono ext6, Nat.le_succ_of_le hacc, t6⟩
        | true =>
          refine ⟨F6, ρ4, μ6, _, R6, S4.mono s6.ext, t6, fun d μ8 t8 F8 H8 v s8 R8 r8 => ?_⟩
          obtain ⟨e9, f9, m9⟩ := s8.fr D (by rw [at6]; exact fun z => nomatch z) f7 m7
          have at8 : H8 D = some (.lst ws) := e9.trans at6
          have ra : RepL K F8 acc ws := r2.mono (ext6.trans s8.ext)
          refine ⟨ws, at8, by rw [← ra.length]; exact Nat.lt_of_le_of_lt hacc (Nat.lt_of_lt_of_le hi hlen), F8, μ8, acc ++ [d], ws ++ [v], ?_, R8.aside f9 m9, f9, m9, upd_same, ra.append (.one r8), ?_, t8⟩
          · refine ⟨(st6.trans s8).ext, fun a h1 h2 h3 => ?_⟩
            have ha : a ≠ D := fun z => by subst z; exact h1 hD
            obtain ⟨q1, q2, q3⟩ := (st6.trans s8).fr a h1 h2 h3
            exact ⟨(upd_ne ha).trans q1, q2, q3⟩
          · rw [List.length_append]; exact Nat.succ_le_succ hacc
  · have e : i = ds.length := by omega
    subst e
    refine .inl ⟨src.stop F2 H' μ2 s2 R2 (hok _ acc μ2 hle w2), ?_⟩
    refine k acc μ2 (fin acc μ2 w2) F2 H' D ws (s1.trans s2) R2 f2 m2 hH2 r2 fun a ha hb hc z => ?_
    subst z
    exact ha ((s1.fr a ha hb hc).1.symm.trans hD)
end DS
namespace DS
open PySem PySem.Spec PyProof.Rows L2
section
variable {X : Cx} {pos p spos py : Pos} {a b c e o iter tg elt : Expr} {es ifs : List Expr} {x y : Str} {scope : Scope} {own : List (Str × Nat)} {wi : DTI} {g : TG} {dg : DTG} {tt : DTT} {te : DTE}
abbrev DTs (X : Cx) (ifs : List Expr) (t : DTT) : Prop := PTs X ifs (LT X.K t)
abbrev dYes : DTT := fun _ μ Q => Q true μ
theorem dts_nil : DTs X [] dYes := ⟨fun pins s σ H Q I h => by
  obtain ⟨F, ρ, μ, Q', R, S, t, k⟩ := h
  exact pts_nil.run pins s σ H Q I (k true μ t F H (Stp.refl F H μ) R)⟩
theorem lcS {K : PySem.W.Frag} {vs : List Nat} (og : OwnG K g dg vs) : ∀ σ H Q, LE K (dLcS wi dg tt te vs) σ H Q → tLc (LI K wi) g (LT K tt) (LE K te) vs σ H Q := fun σ H Q h => by
  obtain ⟨F, ρ, μ, Q', R, S, t, k⟩ := h
  refine liftLc og R S t fun acc μ' q F' H' p ws s R' f m hp r ne => ?_
  have ex : Ext F' (upd F' p (.lst ws)) := Ext.new f
  refine k (.lst acc) μ' q (upd F' p (.lst ws)) H' (.ref p) ⟨s.ext.trans ex, fun a h1 h2 h3 => ?_⟩ (R'.adopt f m hp) (.lst upd_same (r.mono ex))
  obtain ⟨q1, q2, q3⟩ := s.fr a h1 h2 h3
  exact ⟨q1, by rw [upd_ne (ne a h1 h2 h3)]; exact q2, q3⟩
variable (hc : X.calm = true) (hN : X.N.Nodup) (ok : BlkOk X.N X.env.scope scope own) (og : OwnG X.K g dg (own.map (·.2))) (hi : DI X tg iter wi)
  (hg : ∀ (s : Shared) (H : Hp) (C : Addr) (cl : List (Str × Addr)) (fp : List Addr), PG (X.blk s H scope (compEnvC scope cl C X.env) fp) tg g)
  (ht : ∀ (s : Shared) (H : Hp) (C : Addr) (cl : List (Str × Addr)) (fp : List Addr), DTs (X.blk s H scope (compEnvC scope cl C X.env) fp) ifs tt)
  (he : ∀ (s : Shared) (H : Hp) (C : Addr) (cl : List (Str × Addr)) (fp : List Addr), DE (X.blk s H scope (compEnvC scope cl C X.env) fp) elt te)
include hc hN ok og hi hg ht he
theorem de_lc (hs : ∀ x, foldedSetIterable iter X.env x = pure x := by intro _; rfl) : DE X (.ListComp elt [⟨tg, iter, ifs, 0⟩] scope pos) (dLcS wi dg tt te (own.map (·.2))) := weakE (pe_lc hc hN hi ok hg ht he hs) (lcS og)
end

section
variable {X : Cx} {K : PySem.W.Frag}
def dAdd : DR2 := fun x y μ Q => match x with
  | .int i => match y with
    | .int j => Q (.int (i + j)) μ
    | _ => False
  | .str i => match y with
    | .str j => i.length + j.length ≤ sizeLine ∧ Q (.str (i ++ j)) μ
    | _ => False
  | .tup xs => match y with
    | .tup ys => xs.length + ys.length ≤ sizeLine ∧ Q (.tup (xs ++ ys)) μ
    | _ => False
  | x => match lstD μ x, lstD μ y with
    | some xs, some ys => xs.length + ys.length ≤ sizeLine ∧ Q (.lst (xs ++ ys)) μ
    | _, _ => False
def rAdd (K : PySem.W.Frag) : R2 := fun x y H Q => (∃ i j, x = .int i ∧ y = .int j ∧ Q (.int (i + j)) H) ∨ ((∃ i j, x = .str i ∧ y = .str j ∧ i.length + j.length ≤ sizeLine ∧ Q (.str (i ++ j)) H) ∨ (rCatA K x y H Q ∨ rCat x y H Q))
theorem opr_add : OpR X (binaryOp .Add) (rAdd X.K) := OpR.or op_add (OpR.or op_add_str (OpR.or op_catA op_cat))
theorem lr_add : LR2 K dAdd (rAdd K) := fun F H μ x y dx dy Q' Q R rx ry t k => by
  have lists : ∀ xs ys, lstD μ dx = some xs → lstD μ dy = some ys → xs.length + ys.length ≤ sizeLine ∧ Q' (.lst (xs ++ ys)) μ → rAdd K x y H Q := fun xs ys ex ey t => by
    obtain ⟨a, vs, rfl, ha, r1⟩ := R.lst rx ex
    obtain ⟨b, ws, rfl, hb, r2⟩ := R.lst ry ey
    refine .inr (.inr (.inr ⟨a, b, vs, ws, rfl, rfl, ha, hb, by rw [← r1.length, ← r2.length]; exact t.1, fun q hq => ?_⟩))
    exact k _ μ t.2 _ _ _ (Stp.newS R hq) (R.newS hq) (.lst upd_same ((r1.append r2).mono (Ext.new (R.freeF hq))))
  have fall : ∀ {b : Prop}, (match lstD μ dx, lstD μ dy with
    | some xs, some ys => xs.length + ys.length ≤ sizeLine ∧ Q' (.lst (xs ++ ys)) μ
    | _, _ => False) → rAdd K x y H Q := fun {b} t => by
    cases e1 : lstD μ dx with
    | none => rw [e1] at t; exact False.elim t
    | some xs => cases e2 : lstD μ dy with
      | none => rw [e1, e2] at t; exact False.elim t
      | some ys => rw [e1, e2] at t; exact lists xs ys e1 e2 t
  cases dx with
  | int i => cases dy with
    | int j => cases rx; cases ry; exact .inl ⟨i, j, rfl, rfl, k _ μ t F H _ (Stp.refl _ _ _) R (.int _)⟩
    | _ => exact False.elim t
  | str i => cases dy with
    | str j => cases rx; cases ry; exact .inr (.inl ⟨i, j, rfl, rfl, t.1, k _ μ t.2 F H _ (Stp.refl _ _ _) R (.str _)⟩)
    | _ => exact False.elim t
  | tup xs => cases dy with
    | tup ys =>
      cases rx with
      | tup h1 r1 => cases ry with
        | tup h2 r2 =>
          refine .inr (.inr (.inl ⟨_, _, _, _, rfl, rfl, R.ext.sqT h1, R.ext.sqT h2, by rw [← r1.length, ← r2.length]; exact t.1, fun z => ?_, fun _ z => ?_, fun _ _ q hq => ?_⟩))
          · have e := r1.nil_iff.mpr z
            subst e
            exact k _ μ t.2 F H _ (Stp.refl _ _ _) R (.tup h2 r2)
          · have e := r2.nil_iff.mpr z
            subst e
            have t2 := t.2
            rw [List.append_nil] at t2
            exact k _ μ t2 F H _ (Stp.refl _ _ _) R (.tup h1 r1)
          · exact k _ μ t.2 _ _ _ (Stp.newS R hq) (R.newS hq) (.tup (.inl (.inl upd_same)) ((r1.append r2).mono (Ext.new (R.freeF hq))))
    | _ => exact False.elim t
  | lst xs => exact fall (b := True) t
  | ref a => exact fall (b := True) t
  | _ => exact fall (b := True) t
def dSub : DR2 := fun x y μ Q => match x with
  | .int i => match y with
    | .int j => Q (.int (i - j)) μ
    | _ => False
  | _ => False
theorem lr_ints {dr : DR2} {C : Int → Int → Prop} {gg : Int → Int → V} {ff : Int → Int → SD} (hf : ∀ i j, plain (ff i j) = some (gg i j)) (h : ∀ x y μ Q, dr x y μ Q → ∃ i j, x = .int i ∧ y = .int j ∧ C i j ∧ Q (ff i j) μ) : LR2 K dr (rI C gg) := fun F H μ x y dx dy Q' Q R rx ry t k => by
  obtain ⟨i, j, rfl, rfl, hC, t2⟩ := h _ _ _ _ t
  cases rx; cases ry
  exact ⟨i, j, rfl, rfl, hC, k _ μ t2 F H _ (Stp.refl _ _ _) R (RepS.plain (hf i j))⟩
theorem lr_ints0 {dr : DR2} {gg : Int → Int → V} {ff : Int → Int → SD} (hf : ∀ i j, plain (ff i j) = some (gg i j)) (h : ∀ x y μ Q, dr x y μ Q → ∃ i j, x = .int i ∧ y = .int j ∧ Q (ff i j) μ) : LR2 K dr (rI0 gg) := fun F H μ x y dx dy Q' Q R rx ry t k => by
  obtain ⟨i, j, rfl, rfl, t2⟩ := h _ _ _ _ t
  cases rx; cases ry
  exact ⟨i, j, rfl, rfl, k _ μ t2 F H _ (Stp.refl _ _ _) R (RepS.plain (hf i j))⟩
theorem lr_sub : LR2 K dSub (rI0 fun i j => .int (i - j)) := lr_ints0 (ff := fun i j => .int (i - j)) (fun _ _ => rfl) fun x y μ Q t => by
  cases x <;> cases y <;> first | exact False.elim t | exact ⟨_, _, rfl, rfl, t⟩
/-- x * y: two ints; a text and an int; a list and an int -/
def repS (x : Str) (n : Nat) : Str := ⟨((List.replicate n x.cps.toList).flatten).toArray⟩
theorem foldl_app (a : Array Nat) : ∀ (n : Nat) (acc : Array Nat), (List.replicate n a).foldl (· ++ ·) acc = (acc.toList ++ (List.replicate n a.toList).flatten).toArray
  | 0, acc => by simp
  | n + 1, acc => by
    rw [List.replicate_succ, List.foldl_cons, foldl_app a n, List.replicate_succ, List.flatten_cons]
    simp
theorem repS_eq (x : Str) (n : Nat) : (⟨(List.replicate n x.cps).foldl (· ++ ·) #[]⟩ : Str) = repS x n := by
  unfold repS
  rw [foldl_app]
  simp
theorem repS_length (x : Str) (n : Nat) : (repS x n).length = x.length * n := by
  show ((List.replicate n x.cps.toList).flatten).toArray.size = x.cps.size * n
  simp [Nat.mul_comm]
theorem op_mulS : OpR X (binaryOp .Mult) (fun x y H Q => ∃ s j, x = .str s ∧ y = .int j ∧ (0 ≤ j ∧ j ≤ 1000000 ∧ s.length * j.toNat ≤ sizeLine) ∧ Q (.str (repS s j.toNat)) H) := by
  intro pins st σ H x y v u Q I rx ry h
  obtain ⟨s, j, rfl, rfl, ⟨h0, h1, h2⟩, q⟩ := h
  obtain ⟨t, rfl⟩ := rx
  obtain ⟨t', rfl⟩ := ry
  refine P.mul_str ?_ (fun a b z => ?_) (fun a b => ?_) ?_
  · rw [decide_eq_false (by omega), decide_eq_false (by omega)]; rfl
  · have hl : (sizeLine : Int) ≤ (2 ^ 63 - 1) / 1000000 := by decide
    have hj : 0 < j := by omega
    have hs : (s.length : Int) * j ≤ sizeLine := by
      have e : ((s.length * j.toNat : Nat) : Int) = (s.length : Int) * j := by rw [Int.natCast_mul, Int.toNat_of_nonneg h0]
      rw [← e]; exact Int.ofNat_le.mpr h2
    have h3 : (s.length : Int) * 1 ≤ (s.length : Int) * j := Int.mul_le_mul_of_nonneg_left (by omega) (Int.natCast_nonneg _)
    have h5 : (2 ^ 63 - 1) / 1000000 ≤ (2 ^ 63 - 1) / j := by
      apply Int.le_ediv_of_mul_le hj
      have : ((2 ^ 63 - 1) / 1000000 : Int) * j ≤ ((2 ^ 63 - 1) / 1000000 : Int) * 1000000 := Int.mul_le_mul_of_nonneg_left h1 (by decide)
      exact Int.le_trans this (by decide)
    omega
  · unfold Builtin.Str.tooLong
    simpa using h2
  · split
    · rename_i hlt
      have e : j = 0 := by omega
      subst e
      exact ⟨by decide, ⟨.str _, H, I.tok _, ⟨_, rfl⟩, q⟩⟩
    · split
      · rename_i hn hy
        have e : repS s j.toNat = s := by
          simp only [Bool.or_eq_true, beq_iff_eq] at hy
          rcases hy with hy | hy
          · subst hy; unfold repS; simp
          · have : s.cps = #[] := by
              have : s.cps.size = 0 := hy
              exact Array.eq_empty_of_size_eq_zero this
            obtain ⟨c⟩ := s
            simp only at this
            subst this
            unfold repS; simp
        rw [e] at q
        exact ⟨.str _, H, I, ⟨_, rfl⟩, q⟩
      · rw [repS_eq]
        exact ⟨by rw [repS_length]; exact h2, ⟨.str _, H, I.tok _, ⟨_, rfl⟩, q⟩⟩
end
end DS
namespace DS
open PySem PySem.Spec PyProof.Rows L2
mutual
def pdS : SD → Option PyData
  | .non => some .none
  | .bl b => some (.bool b)
  | .int i => some (.int i)
  | .str s => some (.str s)
  | .ref _ => none
  | .ty _ => none
  | .exc _ _ => none
  | .ptp _ => none
  | .tup xs => match pdL xs with
    | some ds => some (.tuple ds)
    | none => none
  | .lst xs => match pdL xs with
    | some ds => some (.list ds)
    | none => none
  | .rol xs => match pdL xs with
    | some ds => some (.list ds)
    | none => none
  | .dic _ => none
def pdL : List SD → Option (List PyData)
  | [] => some []
  | d :: r => match pdS d, pdL r with
    | some x, some y => some (x :: y)
    | _, _ => none
end
/-- .. of a list that may change, too -/
def pd (μ : Mu) : SD → Option PyData
  | .ref a => match μ a with
    | some (.lst xs) => match pdL xs with
      | some ds => some (.list ds)
      | none => none
    | _ => none
  | d => pdS d
section
variable {K : PySem.W.Frag} {F H : Hp} {μ : Mu}
mutual
theorem RepS.dp (ex : Ext F H) (sub : ∀ a o, F a = some o → H a = some o) : ∀ {d : SD} {v : V} {p : PyData}, RepS K F d v → pdS d = some p → Dp K H v p
  | _, _, _, .non, e => by cases e; exact .non
  | _, _, _, .bl b, e => by cases e; exact .bl b
  | _, _, _, .int b, e => by cases e; exact .int b
  | _, _, _, .str b, e => by cases e; exact .str b
  | _, _, _, .ref _, e => by cases e
  | _, _, _, .ty _, e => by cases e
  | .tup ds, _, _, .tup h r, e => by
    unfold pdS at e
    cases q : pdL ds with
    | none => rw [q] at e; cases e
    | some ps => rw [q] at e; cases e; exact .tup (ex.sqT h) (RepL.dp ex sub r q)
  | .lst ds, _, _, .lst h r, e => by
    unfold pdS at e
    cases q : pdL ds with
    | none => rw [q] at e; cases e
    | some ps => rw [q] at e; cases e; exact .lst (SqL.of (sub _ _ h)) (RepL.dp ex sub r q)
  | .rol ds, _, _, .rol h r, e => by
    unfold pdS at e
    cases q : pdL ds with
    | none => rw [q] at e; cases e
    | some ps => rw [q] at e; cases e; exact .lst (ex.sqL h) (RepL.dp ex sub r q)
  | _, _, _, .dic _ _ _, e => by cases e
  | _, _, _, .exc0 _ _, e => by cases e
  | _, _, _, .exc _ _ _ _ _, e => by cases e
  | _, _, _, .ptp _ _ _, e => by cases e
theorem RepL.dp (ex : Ext F H) (sub : ∀ a o, F a = some o → H a = some o) : ∀ {ds : List SD} {vs : List V} {ps : List PyData}, RepL K F ds vs → pdL ds = some ps → DpAll K H vs ps
  | _, _, _, .nil, e => by cases e; exact .nil
  | d :: ds, _, _, .cons h r, e => by
    unfold pdL at e
    cases q : pdS d with
    | none => rw [q] at e; cases e
    | some x => cases q2 : pdL ds with
      | none => rw [q, q2] at e; cases e
      | some y => rw [q, q2] at e; cases e; exact .cons (RepS.dp ex sub h q) (RepL.dp ex sub r q2)
end
theorem HReal.dp (R : HReal K F H μ) {d : SD} {v : V} {p : PyData} (r : RepS K F d v) (e : pd μ d = some p) : Dp K H v p := by
  cases r with
  | ref a =>
    unfold pd at e
    simp only at e
    cases q : μ a with
    | none => rw [q] at e; cases e
    | some m =>
      rw [q] at e
      obtain ⟨_, o, h, ro⟩ := R.mus a m q
      cases ro with
      | lst r =>
        rename_i ds vs
        cases q2 : pdL ds with
        | none => simp only [q2] at e; cases e
        | some ps => simp only [q2] at e; cases e; exact .lst (SqL.of h) (RepL.dp R.ext R.sub r q2)
      | _ => cases e
  | non => exact RepS.dp R.ext R.sub .non e
  | bl b => exact RepS.dp R.ext R.sub (.bl b) e
  | int b => exact RepS.dp R.ext R.sub (.int b) e
  | str b => exact RepS.dp R.ext R.sub (.str b) e
  | ty b => cases e
  | tup h r => exact RepS.dp R.ext R.sub (.tup h r) e
  | lst h r => exact RepS.dp R.ext R.sub (.lst h r) e
  | rol h r => exact RepS.dp R.ext R.sub (.rol h r) e
  | dic h q r => cases e
  | exc0 _ _ => cases e
  | exc _ _ _ _ _ => cases e
  | ptp _ _ _ => cases e
end
/-- x == y: none where it is not known -/
def eqD (μ : Mu) (x y : SD) : Option Bool := match x, y with
  | .str s, .str t => some (decide (s = t))
  | .int i, .int j => some (decide (i = j))
  | .bl i, .bl j => some (decide (i = j))
  | .non, .non => some true
  | .non, .str _ => some false
  | .str _, .non => some false
  | x, y => match pd μ x, pd μ y with
    | some p, some q => if SeqAt.shaped p = true ∧ SeqAt.shaped q = true then some (PyData.eqv p q) else none
    | _, _ => none
def dEq (neg : Bool) : DR2 := fun x y μ Q => match eqD μ x y with
  | some b => Q (.bl (neg != b)) μ
  | none => False
section
variable {X : Cx} {K : PySem.W.Frag}
def rEqA (K : PySem.W.Frag) : R2 := fun x y H Q => rEq x y H Q ∨ rEqD K x y H Q
def rNeA (K : PySem.W.Frag) : R2 := fun x y H Q => rNe x y H Q ∨ rNeD K x y H Q
theorem opr_eq (hu : X.A.units + 64 < cLine) : OpR X (compareOp .Eq) (rEqA X.K) := op_eq.or (op_eqD hu)
theorem opr_ne (hu : X.A.units + 64 < cLine) : OpR X (compareOp .NotEq) (rNeA X.K) := op_ne.or (op_neD hu)
theorem eqD_cases {μ : Mu} {x y : SD} {b : Bool} (h : eqD μ x y = some b) : (∃ v w, plain x = some v ∧ plain y = some w ∧ scal v w = true ∧ b = decide (v = w)) ∨ ∃ p q, pd μ x = some p ∧ pd μ y = some q ∧ SeqAt.shaped p = true ∧ SeqAt.shaped q = true ∧ b = PyData.eqv p q := by
  unfold eqD at h
  split at h
  · cases h; exact .inl ⟨_, _, rfl, rfl, rfl, by simp⟩
  · cases h; exact .inl ⟨_, _, rfl, rfl, rfl, by simp⟩
  · cases h; exact .inl ⟨_, _, rfl, rfl, rfl, by simp⟩
  · cases h; exact .inl ⟨_, _, rfl, rfl, rfl, by simp⟩
  · cases h; exact .inl ⟨_, _, rfl, rfl, rfl, by simp⟩
  · cases h; exact .inl ⟨_, _, rfl, rfl, rfl, by simp⟩
  · split at h
    · rename_i p q e1 e2
      split at h
      · rename_i hs
        cases h
        exact .inr ⟨p, q, e1, e2, hs.1, hs.2, rfl⟩
      · cases h
    · cases h
theorem lr_eq : LR2 K (dEq false) (rEqA K) := fun F H μ x y dx dy Q' Q R rx ry t k => by
  unfold dEq at t
  cases e : eqD μ dx dy with
  | none => rw [e] at t; exact False.elim t
  | some b =>
    rw [e] at t
    have t : Q' (.bl b) μ := by simpa using t
    rcases eqD_cases e with ⟨v, w, h1, h2, h3, rfl⟩ | ⟨p, q, h1, h2, h3, h4, rfl⟩
    · obtain rfl := rx.isPlain h1
      obtain rfl := ry.isPlain h2
      exact .inl ⟨h3, k _ μ t F H _ (Stp.refl _ _ _) R (.bl _)⟩
    · exact .inr ⟨p, q, R.dp rx h1, R.dp ry h2, h3, h4, k _ μ t F H _ (Stp.refl _ _ _) R (.bl _)⟩
theorem lr_ne : LR2 K (dEq true) (rNeA K) := fun F H μ x y dx dy Q' Q R rx ry t k => by
  unfold dEq at t
  cases e : eqD μ dx dy with
  | none => rw [e] at t; exact False.elim t
  | some b =>
    rw [e] at t
    have t : Q' (.bl (!b)) μ := by simpa using t
    rcases eqD_cases e with ⟨v, w, h1, h2, h3, rfl⟩ | ⟨p, q, h1, h2, h3, h4, rfl⟩
    · obtain rfl := rx.isPlain h1
      obtain rfl := ry.isPlain h2
      exact .inl ⟨h3, k _ μ t F H _ (Stp.refl _ _ _) R (.bl _)⟩
    · exact .inr ⟨p, q, R.dp rx h1, R.dp ry h2, h3, h4, k _ μ t F H _ (Stp.refl _ _ _) R (.bl _)⟩

def dCmp (fi : Int → Int → Bool) (fs : List Nat → List Nat → Bool) : DR2 := fun x y μ Q => match x with
  | .int i => match y with
    | .int j => Q (.bl (fi i j)) μ
    | _ => False
  | .str s => match y with
    | .str t => Q (.bl (fs s.cps.toList t.cps.toList)) μ
    | _ => False
  | _ => False
def rCmp (fi : Int → Int → Bool) (fs : List Nat → List Nat → Bool) : R2 := fun x y H Q => (∃ i j, x = .int i ∧ y = .int j ∧ Q (.bl (fi i j)) H) ∨ ∃ i j : Str, x = .str i ∧ y = .str j ∧ Q (.bl (fs i.cps.toList j.cps.toList)) H
theorem lr_cmp {fi : Int → Int → Bool} {fs : List Nat → List Nat → Bool} : LR2 K (dCmp fi fs) (rCmp fi fs) := fun F H μ x y dx dy Q' Q R rx ry t k => by
  cases dx with
  | int i => cases dy with
    | int j => cases rx; cases ry; exact .inl ⟨i, j, rfl, rfl, k _ μ t F H _ (Stp.refl _ _ _) R (.bl _)⟩
    | _ => exact False.elim t
  | str i => cases dy with
    | str j => cases rx; cases ry; exact .inr ⟨i, j, rfl, rfl, k _ μ t F H _ (Stp.refl _ _ _) R (.bl _)⟩
    | _ => exact False.elim t
  | _ => exact False.elim t
abbrev dLt : DR2 := dCmp (fun i j => decide (i < j)) fun s t => decide (s < t)
theorem opr_lt : OpR X (compareOp .Lt) (rCmp (fun i j => decide (i < j)) fun s t => decide (s < t)) := op_lt.or op_lt_str
theorem lr_lt : LR2 K dLt (rCmp (fun i j => decide (i < j)) fun s t => decide (s < t)) := lr_cmp

def rMul : R2 := fun x y H Q => rI IntMulOk (fun i j => .int (i * j)) x y H Q ∨ ((∃ s j, x = .str s ∧ y = .int j ∧ (0 ≤ j ∧ j ≤ 1000000 ∧ s.length * j.toNat ≤ sizeLine) ∧ Q (.str (repS s j.toNat)) H) ∨ rRep x y H Q)
theorem op_mulG : OpR X (binaryOp .Mult) (rI IntMulOk fun i j => .int (i * j)) := opI fun _ _ _ _ _ _ _ hc q => mul_int q hc
theorem opr_mul : OpR X (binaryOp .Mult) rMul := op_mulG.or (op_mulS.or op_rep)
def dMul : DR2 := fun x y μ Q => match y with
  | .int j => match x with
    | .int i => IntMulOk i j ∧ Q (.int (i * j)) μ
    | .str s => (0 ≤ j ∧ j ≤ 1000000 ∧ s.length * j.toNat ≤ sizeLine) ∧ Q (.str (repS s j.toNat)) μ
    | x => match lstD μ x with
      | some xs => (-(2 ^ 63) ≤ j ∧ j < 2 ^ 63 ∧ xs.length * j.toNat ≤ sizeLine) ∧ Q (.lst (List.replicate j.toNat xs).flatten) μ
      | none => False
  | _ => False
theorem RepL.rep {F : Hp} {ds : List SD} {vs : List V} (h : RepL K F ds vs) : ∀ n : Nat, RepL K F (List.replicate n ds).flatten (List.replicate n vs).flatten
  | 0 => .nil
  | n + 1 => by rw [List.replicate_succ, List.replicate_succ, List.flatten_cons, List.flatten_cons]; exact h.append (RepL.rep h n)
theorem lr_mul : LR2 K dMul rMul := fun F H μ x y dx dy Q' Q R rx ry t k => by
  cases dy with
  | int j =>
    cases ry
    have fall : (match lstD μ dx with
      | some xs => (-(2 ^ 63) ≤ j ∧ j < 2 ^ 63 ∧ xs.length * j.toNat ≤ sizeLine) ∧ Q' (.lst (List.replicate j.toNat xs).flatten) μ
      | none => False) → rMul x (.int j) H Q := fun t => by
      cases e : lstD μ dx with
      | none => rw [e] at t; exact False.elim t
      | some xs =>
        rw [e] at t
        obtain ⟨⟨h1, h2, h3⟩, t⟩ := t
        obtain ⟨a, vs, rfl, ha, r⟩ := R.lst rx e
        refine .inr (.inr ⟨a, j, vs, rfl, rfl, ha, h1, h2, by rw [← r.length]; exact h3, fun q hq => ?_⟩)
        exact k _ μ t _ _ _ (Stp.newS R hq) (R.newS hq) (.lst upd_same ((r.rep _).mono (Ext.new (R.freeF hq))))
    cases dx with
    | int i => cases rx; exact .inl ⟨i, j, rfl, rfl, t.1, k _ μ t.2 F H _ (Stp.refl _ _ _) R (.int _)⟩
    | str s => cases rx; exact .inr (.inl ⟨s, j, rfl, rfl, t.1, k _ μ t.2 F H _ (Stp.refl _ _ _) R (.str _)⟩)
    | lst xs => exact fall t
    | ref a => exact fall t
    | _ => exact fall t
  | _ => exact False.elim t
def dI2 (C : Int → Int → Prop) (f : Int → Int → Int) : DR2 := fun x y μ Q => match x with
  | .int i => match y with
    | .int j => C i j ∧ Q (.int (f i j)) μ
    | _ => False
  | _ => False
theorem lr_i2 {C : Int → Int → Prop} {f : Int → Int → Int} : LR2 K (dI2 C f) (rI C fun i j => .int (f i j)) := lr_ints (ff := fun i j => .int (f i j)) (fun _ _ => rfl) fun x y μ Q t => by
  cases x <;> cases y <;> first | exact False.elim t | exact ⟨_, _, rfl, rfl, t.1, t.2⟩
abbrev dMod : DR2 := dI2 (fun _ j => 0 < j) fun i j => i % j
abbrev dDiv : DR2 := dI2 CDivW fun i j => i / j
def CPowW (i j : Int) : Prop := 0 ≤ j ∧ (Builtin.Int.intBits i : Int) * j ≤ 2 ^ 27
theorem op_powW : OpR X (binaryOp .Pow) (rI CPowW fun i j => .int (i ^ j.toNat)) := opI fun _ _ _ _ _ _ _ hc q => pow_int hc.1 hc.2 q
abbrev dPow : DR2 := dI2 CPowW fun i j => i ^ j.toNat
end
/-- one operand -/
abbrev dUnI (f : Int → Int) (ta : DTE) : DTE := fun ρ μ Q => ta ρ μ fun x μ1 => match x with
  | .int i => Q (.int (f i)) μ1
  | _ => False
theorem de_neg {X : Cx} {a : Expr} {pos : Pos} {ta : DTE} (ha : DE X a ta) : DE X (.UnaryOp .USub a pos) (dUnI (fun i => -i) ta) := weakE (pe_un un_neg ha) fun σ H Q h => by
  obtain ⟨F, ρ, μ, Q', R, S, t, k⟩ := h
  refine ⟨F, ρ, μ, _, R, S, t, fun d μ1 t1 F1 H1 v s1 R1 r1 => ?_⟩
  cases r1 with
  | int i => exact ⟨i, rfl, k _ μ1 t1 F1 H1 _ s1 R1 (.int _)⟩
  | _ => exact False.elim t1

def eqA (a b : SD) : Bool := match plain a, plain b with
  | some v, some w => eqV v w
  | _, _ => false
def flatD (d : SD) : Bool := match plain d with
  | some v => flatV v
  | none => false
def inS (x : SD) (xs : List SD) : Bool := xs.any fun y => eqA y x
def dIn (neg : Bool) : DR2 := fun x y μ Q => match y with
  | .str t => match x with
    | .str s => match s.cps.toList with
      | [c] => Q (.bl (neg != decide (c ∈ t.cps.toList))) μ
      | _ => False
    | _ => False
  | y => match seqD μ y with
    | some xs => (flatD x = true ∧ xs.all flatD = true) ∧ Q (.bl (neg != inS x xs)) μ
    | none => False
section
variable {X : Cx} {K : PySem.W.Frag} {F : Hp}
theorem flatD_V {d : SD} {v : V} (r : RepS K F d v) (h : flatD d = true) : plain d = some v ∧ flatV v = true := by
  unfold flatD at h
  cases e : plain d with
  | none => rw [e] at h; cases h
  | some w =>
    rw [e] at h
    obtain rfl := r.isPlain e
    exact ⟨rfl, h⟩
theorem flatL_V : ∀ {ds : List SD} {vs : List V}, RepL K F ds vs → ds.all flatD = true → vs.all flatV = true ∧ ∀ {x : SD} {v : V}, plain x = some v → (ds.any fun y => eqA y x) = inV v vs
  | _, _, .nil, _ => ⟨rfl, fun _ => rfl⟩
  | d :: ds, _, .cons h r, e => by
    rw [List.all_cons, Bool.and_eq_true] at e
    obtain ⟨p, f⟩ := flatD_V h e.1
    obtain ⟨q1, q2⟩ := flatL_V r e.2
    refine ⟨by rw [List.all_cons, f, q1]; rfl, fun {x v} hx => ?_⟩
    show (eqA d x || (ds.any fun y => eqA y x)) = _
    rw [q2 hx]
    unfold eqA
    rw [p, hx]
    rfl
def rInA (K : PySem.W.Frag) (neg : Bool) : R2 := fun x y H Q => (∃ (c : Nat) (z : Str), x = .str ⟨#[c]⟩ ∧ y = .str z ∧ Q (.bl (neg != decide (c ∈ z.cps.toList))) H) ∨ rIn K neg x y H Q
theorem opr_in : OpR X (compareOp .In) (rInA X.K false) := by
  refine OpR.or (fun pins s σ H x y v u Q I rx ry h => ?_) op_in_seq
  obtain ⟨c, z, e1, e2, q⟩ := h
  exact op_in_sign pins s σ H x y v u Q I rx ry ⟨c, z, e1, e2, by simpa using q⟩
theorem one_sign {s : Str} {c : Nat} (h : s.cps.toList = [c]) : s = ⟨#[c]⟩ := by
  obtain ⟨a⟩ := s
  simp only at h
  congr 1
  exact Array.toList_inj.mp (by simpa using h)
theorem lr_in {neg : Bool} : LR2 K (dIn neg) (rInA K neg) := fun F H μ x y dx dy Q' Q R rx ry t k => by
  have fall : (match seqD μ dy with
    | some xs => (flatD dx = true ∧ xs.all flatD = true) ∧ Q' (.bl (neg != inS dx xs)) μ
    | none => False) → rInA K neg x y H Q := fun t => by
    cases e : seqD μ dy with
    | none => rw [e] at t; exact False.elim t
    | some xs =>
      rw [e] at t
      obtain ⟨⟨f1, f2⟩, t⟩ := t
      obtain ⟨a, vs, rfl, r, h3⟩ := R.seq' ry e
      obtain ⟨p, f⟩ := flatD_V rx f1
      obtain ⟨q1, q2⟩ := flatL_V r f2
      refine .inr ⟨a, vs, rfl, h3, f, q1, ?_⟩
      have e2 : inS dx xs = inV x vs := q2 p
      rw [e2] at t
      have e3 : (if neg = true then !inV x vs else inV x vs) = (neg != inV x vs) := by cases neg <;> simp
      rw [e3]
      exact k _ μ t F H _ (Stp.refl _ _ _) R (.bl _)
  cases dy with
  | str z =>
    cases ry
    cases dx with
    | str s =>
      cases rx
      unfold dIn at t
      simp only at t
      split at t
      · rename_i c hc
        have e := one_sign hc
        subst e
        exact .inl ⟨c, z, rfl, rfl, k _ μ t F H _ (Stp.refl _ _ _) R (.bl _)⟩
      · exact False.elim t
    | _ => exact False.elim t
  | _ => exact fall t
end

def dIx : DR2 := fun x y μ Q => match y with
  | .int i => match x with
    | .str z => z.length ≤ sizeLine ∧ match atI z.cps.toList i with
      | some c => Q (.str ⟨#[c]⟩) μ
      | none => False
    | x => match seqD μ x with
      | some xs => match atI xs i with
        | some d => Q d μ
        | none => False
      | none => False
  | _ => False
section
variable {X : Cx} {K : PySem.W.Frag} {a b e : Expr} {pos p2 : Pos} {ta tb te : DTE} {lo hi : Option Expr}
theorem atI_rep {F : Hp} {ds : List SD} {vs : List V} {i : Int} {d : SD} (r : RepL K F ds vs) (h : atI ds i = some d) : ∃ v, atI vs i = some v ∧ RepS K F d v := by
  unfold atI at h ⊢
  rw [← r.length]
  cases q : ixN ds.length i with
  | none => rw [q] at h; cases h
  | some j =>
    rw [q] at h
    obtain ⟨v, h1, h2⟩ := r.get h
    exact ⟨v, h1, h2⟩
theorem lr_ix : LR2 K dIx (rIx K) := fun F H μ x y dx dy Q' Q R rx ry t k => by
  cases dy with
  | int i =>
    cases ry
    have fall : (match seqD μ dx with
      | some xs => match atI xs i with
        | some d => Q' d μ
        | none => False
      | none => False) → rIx K x (.int i) H Q := fun t => by
      cases e : seqD μ dx with
      | none => rw [e] at t; exact False.elim t
      | some xs =>
        rw [e] at t
        simp only at t
        cases e2 : atI xs i with
        | none => rw [e2] at t; exact False.elim t
        | some d =>
          rw [e2] at t
          obtain ⟨a, vs, rfl, r, h3⟩ := R.seq' rx e
          obtain ⟨v, h1, h2⟩ := atI_rep r e2
          rcases h3 with h3 | h3
          · exact .inl ⟨a, vs, i, v, rfl, rfl, h3, h1, k _ μ t F H _ (Stp.refl _ _ _) R h2⟩
          · exact .inr (.inl ⟨a, vs, i, v, rfl, rfl, h3, h1, k _ μ t F H _ (Stp.refl _ _ _) R h2⟩)
    cases dx with
    | str z =>
      cases rx
      obtain ⟨hz, t⟩ := (show z.length ≤ sizeLine ∧ _ from t)
      cases e2 : atI z.cps.toList i with
      | none => rw [e2] at t; exact False.elim t
      | some c => rw [e2] at t; exact .inr (.inr ⟨z, i, c, rfl, rfl, hz, e2, k _ μ t F H _ (Stp.refl _ _ _) R (.str _)⟩)
    | _ => exact fall t
  | _ => exact False.elim t
theorem de_ix (ha : DE X a ta) (hb : DE X b tb) (hs : PlainIx b) : DE X (.Subscript a b pos) (dOp dIx ta tb) := weakE (pe_ix ix_seq ha hb hs) (lift2 lr_ix)
abbrev DTO := Rho → Mu → (Option Int → Mu → Prop) → Prop
def LO (K : PySem.W.Frag) (t : DTO) : TO := fun σ H Q => ∃ F ρ μ Q', HReal K F H μ ∧ Slots K F σ ρ ∧ t ρ μ Q' ∧ ∀ o μ', Q' o μ' → ∀ F' H', Stp F H μ F' H' μ' → HReal K F' H' μ' → Q o H'
abbrev DO (X : Cx) (e : Option Expr) (t : DTO) : Prop := PO X e (LO X.K t)
abbrev dNoPart : DTO := fun _ μ Q => Q none μ
abbrev dPart (t : DTE) : DTO := fun ρ μ Q => t ρ μ fun d μ1 => match d with
  | .int i => Q (some i) μ1
  | _ => False
theorem do_none : DO X none dNoPart := ⟨fun pins s σ H Q I h => by
  obtain ⟨F, ρ, μ, Q', R, S, t, k⟩ := h
  exact po_none.run pins s σ H Q I (k _ μ t F H (Stp.refl _ _ _) R)⟩
theorem do_some (he : DE X e te) : DO X (some e) (dPart te) := ⟨fun pins s σ H Q I h => (po_some he).run pins s σ H Q I (by
  obtain ⟨F, ρ, μ, Q', R, S, t, k⟩ := h
  refine ⟨F, ρ, μ, _, R, S, t, fun d μ1 t1 F1 H1 v s1 R1 r1 => ?_⟩
  cases r1 with
  | int i => exact ⟨i, rfl, k _ μ1 t1 F1 H1 s1 R1⟩
  | _ => exact False.elim t1)⟩
def cutL {α : Type} (xs : List α) (lo hi : Option Int) : List α := (xs.drop (HT.sIx xs.length 0 lo)).take (HT.sIx xs.length xs.length hi - HT.sIx xs.length 0 lo)
theorem RepL.cutL {F : Hp} {ds : List SD} {vs : List V} (r : RepL K F ds vs) (lo hi : Option Int) : RepL K F (DS.cutL ds lo hi) (cutV vs lo hi) := by
  unfold DS.cutL cutV
  rw [r.length]
  exact (r.drop _).take _
theorem cut_all {α : Type} {xs : List α} {lo hi : Option Int} (h : HT.sIx xs.length 0 lo = 0 ∧ HT.sIx xs.length xs.length hi = xs.length) : cutL xs lo hi = xs := by
  unfold cutL
  rw [h.1, h.2]
  simp
/-- x[lo:hi] -/
def drSl (x : SD) (l u : Option Int) (μ3 : Mu) (Q : SD → Mu → Prop) : Prop := match x with
  | .str z => z.length ≤ sizeLine ∧ Q (.str (cutS z l u)) μ3
  | .tup xs => Q (.tup (cutL xs l u)) μ3
  | x => match seqD μ3 x with
    | some xs => Q (.lst (cutL xs l u)) μ3
    | none => False
abbrev dSl (te : DTE) (tl th : DTO) : DTE := fun ρ μ Q => te ρ μ fun x μ1 => tl ρ μ1 fun l μ2 => th ρ μ2 fun u μ3 => drSl x l u μ3 Q
def rSlG (K : PySem.W.Frag) : V → Option Int → Option Int → Hp → VK → Prop := fun x lo hi H Q => rSlS x lo hi H Q ∨ (rSlA K x lo hi H Q ∨ rSlL K x lo hi H Q)
theorem slr : SlR X (rSlG X.K) := sl_str.or (sl_tupA.or sl_list)
theorem de_slice {tl th : DTO} (he : DE X e te) (hl : DO X lo tl) (hu : DO X hi th) : DE X (.Subscript e (.Slice lo hi none p2) pos) (dSl te tl th) := weakE (pe_slice slr he hl hu) fun σ H Q h => by
  obtain ⟨F, ρ, μ, Q', R, S, t, k⟩ := h
  refine ⟨F, ρ, μ, _, R, S, t, fun d μ1 t1 F1 H1 v s1 R1 r1 => ⟨F1, ρ, μ1, _, R1, S.mono s1.ext, t1, fun l μ2 t2 F2 H2 s2 R2 => ⟨F2, ρ, μ2, _, R2, (S.mono s1.ext).mono s2.ext, t2, fun u μ3 t3 F3 H3 s3 R3 => ?_⟩⟩⟩
  unfold drSl at t3
  have r3 := r1.mono (s2.trans s3).ext
  have s := (s1.trans s2).trans s3
  have fall : isTup d = false → (match seqD μ3 d with
    | some xs => Q' (.lst (cutL xs l u)) μ3
    | none => False) → rSlG X.K v l u H3 Q := fun ht t => by
    cases e : seqD μ3 d with
    | none => rw [e] at t; exact False.elim t
    | some xs =>
      rw [e] at t
      obtain ⟨a, vs, rfl, r, h3⟩ := R3.seq r3 e
      rcases h3 with ⟨_, h3⟩ | ⟨z, _⟩
      · exact .inr (.inr ⟨a, vs, rfl, h3, fun q hq => k _ μ3 t _ _ _ (s.trans (Stp.newS R3 hq)) (R3.newS hq) (.lst upd_same ((r.cutL l u).mono (Ext.new (R3.freeF hq))))⟩)
      · rw [ht] at z; cases z
  cases d with
  | str z => cases r3; exact .inl ⟨z, rfl, t3.1, k _ μ3 t3.2 F3 H3 _ s R3 (.str _)⟩
  | tup xs =>
    cases r3 with
    | tup h r =>
      refine .inr (.inl ⟨_, _, rfl, R3.ext.sqT h, fun hw => ?_, fun hw q hq => ?_⟩)
      · have t3' : Q' (.tup (cutL xs l u)) μ3 := t3
        rw [cut_all (by rw [r.length]; exact hw)] at t3'
        exact k _ μ3 t3' F3 H3 _ s R3 (.tup h r)
      · exact k _ μ3 t3 _ _ _ (s.trans (Stp.newS R3 hq)) (R3.newS hq) (.tup (.inl (.inl upd_same)) ((r.cutL l u).mono (Ext.new (R3.freeF hq))))
  | _ => exact fall rfl t3
end
end DS
namespace DS
open PySem PySem.Spec PyProof.Rows L2
abbrev DRc := List SD → Mu → (SD → Mu → Prop) → Prop
def LRc (K : PySem.W.Frag) (dr : DRc) (r : List V → Hp → VK → Prop) : Prop := ∀ F H μ xs ds Q' Q, HReal K F H μ → RepL K F ds xs → dr ds μ Q' →
  (∀ d μ', Q' d μ' → ∀ F' H' v, Stp F H μ F' H' μ' → HReal K F' H' μ' → RepS K F' d v → Q v H') → r xs H Q
abbrev dCB (dr : DRc) (t : DTA) : DTE := fun ρ μ Q => t ρ μ fun ds μ1 => dr ds μ1 Q
section
variable {X : Cx} {K : PySem.W.Frag} {x : Str} {p pos apos cpos : Pos} {e o : Expr} {es : List Expr} {t : DTA} {to : DTE} {dr : DRc} {r : List V → Hp → VK → Prop} {id T : String} {name : Str}
theorem liftCB (hl : LRc K dr r) : ∀ σ H Q, LE K (dCB dr t) σ H Q → tCB r (LA K t) σ H Q := fun σ H Q h => by
  obtain ⟨F, ρ, μ, Q', R, S, t, k⟩ := h
  exact ⟨F, ρ, μ, _, R, S, t, fun ds μ1 t1 F1 H1 vs s1 R1 r1 => hl F1 H1 μ1 vs ds Q' Q R1 r1 t1 fun d μ' q F' H' v s R' r' => k d μ' q F' H' v (s1.trans s) R' r'⟩
theorem de_callB (hc : CallR X (.builtin id) r) (hl : LRc X.K dr r) (hg : Gl X x) (hm : X.mg x = none) (hv : bootBuiltins x = some (.builtin id)) (ha : DA X (e :: es) t) (hn : x ≠ "__name__" := by decide) (hdb : (x == ("__debug__" : Str)) = false := by decide)
    (he : starEach (e :: es) X.env = (false, eval e X.env) :: starEach es X.env := by rfl) (hpl : (backTo pos (starEach es X.env)).any (·.1) = false := by rfl) : DE X (.Call (.Name x p) (e :: es) [] pos) (dCB dr t) :=
  weakE (pe_callB hc hg hm hv ha hn hdb he hpl) (liftCB hl)
theorem de_callT (hc : CallR X (.type T) r) (hl : LRc X.K dr r) (hg : Gl X x) (hm : X.mg x = none) (hv : bootBuiltins x = some (.type T)) (ha : DA X (e :: es) t) (hn : x ≠ "__name__" := by decide) (hdb : (x == ("__debug__" : Str)) = false := by decide)
    (he : starEach (e :: es) X.env = (false, eval e X.env) :: starEach es X.env := by rfl) (hpl : (backTo pos (starEach es X.env)).any (·.1) = false := by rfl) : DE X (.Call (.Name x p) (e :: es) [] pos) (dCB dr t) :=
  weakE (pe_callTy hc hg hm hv ha hn hdb he hpl) (liftCB hl)

def drLen : DRc := fun ds μ Q => match ds with
  | [d] => match d with
    | .str s => s.length ≤ sizeLine ∧ Q (.int s.length) μ
    | d => match seqD μ d with
      | some xs => Q (.int xs.length) μ
      | none => False
  | _ => False
def rLen (K : PySem.W.Frag) : List V → Hp → VK → Prop := fun xs H Q => (∃ p ys, xs = [.ref p] ∧ (SqL K H p ys ∨ SqT K H p ys) ∧ Q (.int ys.length) H) ∨ (∃ z, xs = [.str z] ∧ z.length ≤ sizeLine ∧ Q (.int z.length) H)
theorem cr_len : CallR X (.builtin "len") (rLen X.K) := call_len_seq.or call_len_str
theorem lc_len : LRc K drLen (rLen K) := fun F H μ xs ds Q' Q R r t k => by
  cases r with
  | nil => exact False.elim t
  | cons r1 r2 => cases r2 with
    | cons _ _ => exact False.elim t
    | nil =>
      rename_i d v
      have fall : (match seqD μ d with
        | some xs => Q' (.int xs.length) μ
        | none => False) → rLen K [v] H Q := fun t => by
        cases e : seqD μ d with
        | none => rw [e] at t; exact False.elim t
        | some xs =>
          rw [e] at t
          obtain ⟨a, vs, rfl, r, h3⟩ := R.seq' r1 e
          refine .inl ⟨a, vs, rfl, h3, ?_⟩
          rw [← r.length]
          exact k _ μ t F H _ (Stp.refl _ _ _) R (.int _)
      cases d with
      | str z => cases r1; exact .inr ⟨z, rfl, t.1, k _ μ t.2 F H _ (Stp.refl _ _ _) R (.int _)⟩
      | _ => exact fall t
def drTuple : DRc := fun ds μ Q => match ds with
  | [d] => match seqD μ d with
    | some xs => Q (.tup xs) μ
    | none => False
  | _ => False
theorem seq1 {dr : (SD → Mu → Prop) → List SD → SD → Mu → Prop} {rr : List V → Hp → VK → Prop}
    (h : ∀ F H μ d a vs xs Q' Q, HReal K F H μ → RepS K F d (.ref a) → RepL K F xs vs → ((isTup d = false ∧ SqL K H a vs) ∨ (isTup d = true ∧ SqT K H a vs)) → seqD μ d = some xs → dr Q' xs d μ →
      (∀ d μ', Q' d μ' → ∀ F' H' v, Stp F H μ F' H' μ' → HReal K F' H' μ' → RepS K F' d v → Q v H') → rr [.ref a] H Q) :
    LRc K (fun ds μ Q => match ds with
      | [d] => match seqD μ d with
        | some xs => dr Q xs d μ
        | none => False
      | _ => False) rr := fun F H μ xs ds Q' Q R r t k => by
  cases r with
  | nil => exact False.elim t
  | cons r1 r2 => cases r2 with
    | cons _ _ => exact False.elim t
    | nil =>
      rename_i d v
      cases e : seqD μ d with
      | none => simp only [e] at t
      | some xs =>
        simp only [e] at t
        obtain ⟨a, vs, rfl, r, h3⟩ := R.seq r1 e
        exact h F H μ d a vs xs Q' Q R r1 r h3 e t k
theorem lc_tuple : LRc K drTuple (fun xs H Q => ∃ p ys, xs = [.ref p] ∧ ((SqL K H p ys ∧ ∀ l, H l = none → Q (.ref l) (upd H l (.tup ys))) ∨ (SqT K H p ys ∧ Q (.ref p) H))) :=
  seq1 (dr := fun Q xs _ μ => Q (.tup xs) μ) fun F H μ d a vs xs Q' Q R rd r h3 e t k => by
    rcases h3 with ⟨_, h3⟩ | ⟨z, h3⟩
    · exact ⟨a, vs, rfl, .inl ⟨h3, fun q hq => k _ μ t _ _ _ (Stp.newS R hq) (R.newS hq) (.tup (.inl (.inl upd_same)) (r.mono (Ext.new (R.freeF hq))))⟩⟩
    · cases rd with
      | tup h q =>
        have e' : some xs = some _ := e.symm.trans rfl
        cases e
        exact ⟨a, _, rfl, .inr ⟨h3, k _ μ t F H _ (Stp.refl _ _ _) R (.tup h q)⟩⟩
      | _ => cases z
def drI1 (f : Int → Int) : DRc := fun ds μ Q => match ds with
  | [.int i] => Q (.int (f i)) μ
  | _ => False
theorem lc_abs : LRc K (drI1 fun i => if i < 0 then -i else i) (fun xs H Q => ∃ i, xs = [.int i] ∧ Q (.int (if i < 0 then -i else i)) H) := fun F H μ xs ds Q' Q R r t k => by
  unfold drI1 at t
  split at t
  · cases r with
    | cons r1 r2 => cases r2; cases r1; exact ⟨_, rfl, k _ μ t F H _ (Stp.refl _ _ _) R (.int _)⟩
  · exact False.elim t
def drInt : DRc := fun ds μ Q => match ds with
  | [.int i] => Q (.int i) μ
  | [.bl b] => Q (.int (if b then 1 else 0)) μ
  | _ => False
theorem lc_int : LRc K drInt (fun xs H Q => (∃ i, xs = [.int i] ∧ Q (.int i) H) ∨ ∃ k, xs = [.bl k] ∧ Q (.int (if k then 1 else 0)) H) := fun F H μ xs ds Q' Q R r t k => by
  unfold drInt at t
  split at t
  · cases r with
    | cons r1 r2 => cases r2; cases r1; exact .inl ⟨_, rfl, k _ μ t F H _ (Stp.refl _ _ _) R (.int _)⟩
  · cases r with
    | cons r1 r2 => cases r2; cases r1; exact .inr ⟨_, rfl, k _ μ t F H _ (Stp.refl _ _ _) R (.int _)⟩
  · exact False.elim t
def drI2 (f : Int → Int → Int) : DRc := fun ds μ Q => match ds with
  | [.int i, .int j] => Q (.int (f i j)) μ
  | _ => False
theorem lc_i2 {f : Int → Int → Int} : LRc K (drI2 f) (fun xs H Q => ∃ i j, xs = [.int i, .int j] ∧ Q (.int (f i j)) H) := fun F H μ xs ds Q' Q R r t k => by
  unfold drI2 at t
  split at t
  · cases r with
    | cons r1 r2 => cases r1; cases r2 with
      | cons r2 r3 => cases r3; cases r2; exact ⟨_, _, rfl, k _ μ t F H _ (Stp.refl _ _ _) R (.int _)⟩
  · exact False.elim t
def blsOf : List SD → Option (List Bool)
  | [] => some []
  | .bl b :: r => match blsOf r with
    | some bs => some (b :: bs)
    | none => none
  | _ :: _ => none
theorem blsOf_rep : ∀ {F : Hp} {ds : List SD} {vs : List V} {bs : List Bool}, RepL K F ds vs → blsOf ds = some bs → vs = bs.map V.bl
  | _, _, _, _, .nil, e => by cases e; rfl
  | _, d :: ds, _, _, .cons h r, e => by
    cases h with
    | bl b =>
      unfold blsOf at e
      cases q : blsOf ds with
      | none => rw [q] at e; cases e
      | some bs => rw [q] at e; cases e; rw [blsOf_rep r q]; rfl
    | _ => cases e
theorem blsOf_map (bs : List Bool) : blsOf (bs.map SD.bl) = some bs := by
  induction bs with
  | nil => rfl
  | cons b r ih => show (match blsOf (r.map SD.bl) with | some bs => some (b :: bs) | none => none) = _; rw [ih]
def drBls (f : List Bool → Bool) : DRc := fun ds μ Q => match ds with
  | [d] => match lstD μ d with
    | some xs => match blsOf xs with
      | some bs => Q (.bl (f bs)) μ
      | none => False
    | none => False
  | _ => False
theorem lc_bls {f : List Bool → Bool} : LRc K (drBls f) (fun vs H Q => ∃ (a : Addr) (bs : List Bool), vs = [V.ref a] ∧ SqL K H a (bs.map V.bl) ∧ Q (.bl (f bs)) H) := fun F H μ xs ds Q' Q R r t k => by
  cases r with
  | nil => exact False.elim t
  | cons r1 r2 => cases r2 with
    | cons _ _ => exact False.elim t
    | nil =>
      rename_i d v
      cases e : lstD μ d with
      | none => simp only [drBls, e] at t
      | some xs =>
        simp only [drBls, e] at t
        cases e2 : blsOf xs with
        | none => rw [e2] at t; exact False.elim t
        | some bs =>
          rw [e2] at t
          obtain ⟨a, vs, rfl, ha, r⟩ := R.lst r1 e
          rw [blsOf_rep r e2] at ha
          exact ⟨a, bs, rfl, SqL.of ha, k _ μ t F H _ (Stp.refl _ _ _) R (.bl _)⟩
theorem lc_all : LRc K (drBls fun bs => bs.all _root_.id) (rAll K) := lc_bls
abbrev DRm := SD → List SD → Mu → (SD → Mu → Prop) → Prop
def LRm (K : PySem.W.Frag) (dr : DRm) (r : V → List V → Hp → VK → Prop) : Prop := ∀ F H μ x xs d ds Q' Q, HReal K F H μ → RepS K F d x → RepL K F ds xs → dr d ds μ Q' →
  (∀ d μ', Q' d μ' → ∀ F' H' v, Stp F H μ F' H' μ' → HReal K F' H' μ' → RepS K F' d v → Q v H') → r x xs H Q
/-- e.m(..) of a list -/
abbrev dLM (dr : DRm) (to : DTE) (t : DTA) : DTE := fun ρ μ Q => to ρ μ fun x μ1 => (lstD μ1 x).isSome = true ∧ t ρ μ1 fun xs μ2 => dr x xs μ2 Q
abbrev dLM0 (dr : DRm) (to : DTE) : DTE := fun ρ μ Q => to ρ μ fun x μ1 => (lstD μ1 x).isSome = true ∧ dr x [] μ1 Q
variable {rm : V → List V → Hp → VK → Prop} {drm : DRm}
theorem de_lm (pa : PlainAttrs "list") (slot : Slot "list" name id) (hty : typeOf (.builtin id) = pure (.type "method_descriptor")) (hm : MtR X id rm) (hl : LRm X.K drm rm) (ho : DE X o to) (ha : DA X (e :: es) t)
    (hbase : attributeBase o name X.env (eval o X.env) = eval o X.env := by rfl)
    (hfew : ((backTo cpos (starEach (e :: es) X.env)).all (fun x => !x.1) && (backToKw cpos (keywordEach [] X.env)).all (fun x => x.1.isSome)
      && decide ((e :: es).length + ([] : List Keyword).length + (if ([] : List Keyword).isEmpty then 0 else 1) < 30)) = true := by rfl)
    (hline : (apos.endLine == cpos.line) = true := by rfl) (hs : starEach (e :: es) X.env = (false, eval e X.env) :: starEach es X.env := by rfl) (hplain : (backTo cpos (starEach es X.env)).any (·.1) = false := by rfl) :
    DE X (.Call (.Attribute o name apos) (e :: es) [] cpos) (dLM drm to t) := weakE (pe_bm pa slot hty hm ho ha hbase hfew hline hs hplain) fun σ H Q h => by
  obtain ⟨F, ρ, μ, Q', R, S, t, k⟩ := h
  refine ⟨F, ρ, μ, _, R, S, t, fun d μ1 t1 F1 H1 v s1 R1 r1 => ?_⟩
  obtain ⟨h1, t1⟩ := t1
  obtain ⟨xs, hx⟩ := Option.isSome_iff_exists.mp h1
  obtain ⟨a, vs, rfl, ha, r⟩ := R1.lst r1 hx
  refine ⟨.inl ⟨rfl, vs, SqL.of ha⟩, F1, ρ, μ1, _, R1, S.mono s1.ext, t1, fun ds μ2 t2 F2 H2 ws s2 R2 r2 => ?_⟩
  exact hl F2 H2 μ2 _ ws d ds Q' Q R2 (r1.mono s2.ext) r2 t2 fun d μ' q F' H' v s R' r' => k d μ' q F' H' v ((s1.trans s2).trans s) R' r'
theorem de_lm0 (pa : PlainAttrs "list") (slot : Slot "list" name id) (hty : typeOf (.builtin id) = pure (.type "method_descriptor")) (hm : MtR X id rm) (hl : LRm X.K drm rm) (ho : DE X o to)
    (hbase : attributeBase o name X.env (eval o X.env) = eval o X.env := by rfl) (hline : (apos.endLine == cpos.line) = true := by rfl) :
    DE X (.Call (.Attribute o name apos) [] [] cpos) (dLM0 drm to) := weakE (pe_bm0 pa slot hty hm ho hbase hline) fun σ H Q h => by
  obtain ⟨F, ρ, μ, Q', R, S, t, k⟩ := h
  refine ⟨F, ρ, μ, _, R, S, t, fun d μ1 t1 F1 H1 v s1 R1 r1 => ?_⟩
  obtain ⟨h1, t1⟩ := t1
  obtain ⟨xs, hx⟩ := Option.isSome_iff_exists.mp h1
  obtain ⟨a, vs, rfl, ha, r⟩ := R1.lst r1 hx
  exact ⟨.inl ⟨rfl, vs, SqL.of ha⟩, hl F1 H1 μ1 _ [] d [] Q' Q R1 r1 .nil t1 fun d μ' q F' H' v s R' r' => k d μ' q F' H' v (s1.trans s) R' r'⟩
/-- the list at a, which may change -/
def mlst (μ : Mu) : SD → Option (Addr × List SD)
  | .ref a => match μ a with
    | some (.lst xs) => some (a, xs)
    | _ => none
  | _ => none
theorem HReal.mlst {F H : Hp} {μ : Mu} {d : SD} {v : V} {a : Addr} {xs : List SD} (R : HReal K F H μ) (r : RepS K F d v) (h : DS.mlst μ d = some (a, xs)) : v = .ref a ∧ μ a = some (.lst xs) ∧ ∃ vs, H a = some (.lst vs) ∧ RepL K F xs vs := by
  cases r with
  | ref b =>
    unfold DS.mlst at h
    simp only at h
    split at h
    · rename_i ys hy
      cases h
      obtain ⟨_, o, h, q⟩ := R.mus _ _ hy
      cases q with
      | lst q => exact ⟨rfl, hy, _, h, q⟩
    · cases h
  | _ => cases h
def dmAppend : DRm := fun d ds μ Q => match ds with
  | [y] => match mlst μ d with
    | some (a, xs) => xs.length < sizeLine ∧ Q .non (up μ a (.lst (xs ++ [y])))
    | none => False
  | _ => False
theorem lm_append : LRm K dmAppend rAppend := fun F H μ x xs d ds Q' Q R r rs t k => by
  cases rs with
  | nil => exact False.elim t
  | cons r1 r2 => cases r2 with
    | cons _ _ => exact False.elim t
    | nil =>
      rename_i y vy
      cases e : mlst μ d with
      | none => simp only [dmAppend, e] at t
      | some p =>
        obtain ⟨a, zs⟩ := p
        simp only [dmAppend, e] at t
        obtain ⟨rfl, hm, vs, ha, r⟩ := R.mlst r e
        exact ⟨a, vs, vy, rfl, rfl, ha, by rw [← r.length]; exact t.1, k _ _ t.2 F _ _ (Stp.put hm) (R.put hm (.lst (r.append (.one r1)))) .non⟩
def dmPop : DRm := fun d ds μ Q => match mlst μ d with
  | some (a, xs) => match xs[xs.length - 1]? with
    | some y => ds = [] ∧ Q y (up μ a (.lst xs.dropLast))
    | none => False
  | none => False
theorem lm_pop : LRm K dmPop rPop := fun F H μ x xs d ds Q' Q R r rs t k => by
  cases e : mlst μ d with
  | none => simp only [dmPop, e] at t
  | some p =>
    obtain ⟨a, zs⟩ := p
    simp only [dmPop, e] at t
    cases e2 : zs[zs.length - 1]? with
    | none => rw [e2] at t; exact False.elim t
    | some y =>
      rw [e2] at t
      obtain ⟨rfl, t⟩ := t
      cases rs
      obtain ⟨rfl, hm, vs, ha, r⟩ := R.mlst r e
      obtain ⟨v, h1, h2⟩ := r.get e2
      exact ⟨a, vs, v, rfl, rfl, ha, by rw [← r.length]; exact h1, k _ _ t F _ _ (Stp.put hm) (R.put hm (.lst r.dropLast)) h2⟩
/-- extend by a list or a tuple -/
def rExtA (K : PySem.W.Frag) : V → List V → Hp → VK → Prop := fun x vs H Q => ∃ l b xs zs, x = .ref l ∧ vs = [.ref b] ∧ H l = some (.lst xs) ∧ (H b = some (.lst zs) ∨ SqT K H b zs) ∧ xs.length + zs.length ≤ sizeLine ∧ Q .non (upd H l (.lst (xs ++ zs)))
def dmExtend : DRm := fun d ds μ Q => match ds with
  | [y] => match mlst μ d with
    | some (a, xs) => (match y with
      | .tup ys => xs.length + ys.length ≤ sizeLine ∧ Q .non (up μ a (.lst (xs ++ ys)))
      | y => match lstD μ y with
        | some ys => xs.length + ys.length ≤ sizeLine ∧ Q .non (up μ a (.lst (xs ++ ys)))
        | none => False)
    | none => False
  | _ => False
theorem lm_extend : LRm K dmExtend (rExtA K) := fun F H μ x xs d ds Q' Q R r rs t k => by
  cases rs with
  | nil => exact False.elim t
  | cons r1 r2 => cases r2 with
    | cons _ _ => exact False.elim t
    | nil =>
      rename_i y vy
      cases e : mlst μ d with
      | none => simp only [dmExtend, e] at t
      | some p =>
        obtain ⟨a, zs⟩ := p
        simp only [dmExtend, e] at t
        obtain ⟨rfl, hm, vs, ha, r⟩ := R.mlst r e
        have fall : (match lstD μ y with
          | some ys => zs.length + ys.length ≤ sizeLine ∧ Q' .non (up μ a (.lst (zs ++ ys)))
          | none => False) → rExtA K (.ref a) [vy] H Q := fun t => by
          cases e2 : lstD μ y with
          | none => rw [e2] at t; exact False.elim t
          | some ys =>
            rw [e2] at t
            obtain ⟨b, ws, rfl, hb, rb⟩ := R.lst r1 e2
            exact ⟨a, b, vs, ws, rfl, rfl, ha, .inl hb, by rw [← r.length, ← rb.length]; exact t.1, k _ _ t.2 F _ _ (Stp.put hm) (R.put hm (.lst (r.append rb))) .non⟩
        cases y with
        | tup ys =>
          cases r1 with
          | tup h rb => exact ⟨a, _, vs, _, rfl, rfl, ha, .inr (R.ext.sqT h), by rw [← r.length, ← rb.length]; exact t.1, k _ _ t.2 F _ _ (Stp.put hm) (R.put hm (.lst (r.append rb))) .non⟩
        | _ => exact fall t
def LSet (K : PySem.W.Frag) (ds : SD → SD → SD → Mu → (Mu → Prop) → Prop) (r : TSet) : Prop := ∀ F H μ o i v do_ di dv Q' Q, HReal K F H μ → RepS K F do_ o → RepS K F di i → RepS K F dv v → ds do_ di dv μ Q' →
  (∀ μ', Q' μ' → ∀ F' H', Stp F H μ F' H' μ' → HReal K F' H' μ' → Q H') → r o i v H Q
abbrev hSub (to ti : DTE) (t : SD → SD → SD → Mu → (Mu → Prop) → Prop) : DTG := fun v ρ μ Q => to ρ μ fun o μ1 => ti ρ μ1 fun i μ2 => t o i v μ2 fun μ3 => Q ρ μ3
theorem dg_sub {oe i : Expr} {to ti : DTE} {ts : SD → SD → SD → Mu → (Mu → Prop) → Prop} {rs : TSet} (ho : DE X oe to) (hi : DE X i ti) (hs : PSet X rs) (hl : LSet X.K ts rs)
    (ha : ∀ v, assign (.Subscript oe i pos) X.env v = (do
      let ov ← holding [v] (eval oe X.env)
      let iv ← holding [v, ov] (eval i X.env)
      standAt pos
      holding [v, ov, iv] (setItem ov iv v)
      release [v, ov, iv] []) := by intro _; rfl) : DG X (.Subscript oe i pos) (hSub to ti ts) := weakG (pg_sub ho hi hs ha) fun v σ H Q h => by
  obtain ⟨F, ρ, μ, d, Q', R, S, r, t, k⟩ := h
  refine ⟨F, ρ, μ, _, R, S, t, fun d1 μ1 t1 F1 H1 v1 s1 R1 r1 => ⟨F1, ρ, μ1, _, R1, S.mono s1.ext, t1, fun d2 μ2 t2 F2 H2 v2 s2 R2 r2 => ?_⟩⟩
  exact hl F2 H2 μ2 v1 v2 v d1 d2 d _ _ R2 (r1.mono s2.ext) r2 (r.mono (s1.trans s2).ext) t2 fun μ' q F' H' s R' => k ρ μ' q F' H' σ ((s1.trans s2).trans s) R' (S.mono ((s1.trans s2).trans s).ext)
def dsetL : SD → SD → SD → Mu → (Mu → Prop) → Prop := fun o i v μ Q => match i with
  | .int k => match mlst μ o with
    | some (a, xs) => match ixN xs.length k with
      | some j => Q (up μ a (.lst (xs.set j v)))
      | none => False
    | none => False
  | _ => False
theorem ls_list : LSet K dsetL rSetL := fun F H μ o i v do_ di dv Q' Q R ro ri rv t k => by
  cases di with
  | int n =>
    cases ri
    cases e : mlst μ do_ with
    | none => simp only [dsetL, e] at t
    | some p =>
      obtain ⟨a, xs⟩ := p
      simp only [dsetL, e] at t
      cases e2 : ixN xs.length n with
      | none => rw [e2] at t; exact False.elim t
      | some j =>
        rw [e2] at t
        obtain ⟨rfl, hm, vs, ha, r⟩ := R.mlst ro e
        exact ⟨a, vs, n, j, rfl, rfl, ha, by rw [← r.length]; exact e2, k _ t F _ (Stp.put hm) (R.put hm (.lst (r.set rv j)))⟩
  | _ => exact False.elim t
end

section
variable {X : Cx} {K : PySem.W.Frag}
theorem ext_tup {l : Addr} {items : Array Value} {n : Nat} {b : Addr} {items2 : Array Value} {n2 : Nat} {dd : Option Addr} {sl : Array (Option Value)} (hs0 : ¬(!items.isEmpty && Builtin.List.listTooLong (items.size + items2.size)) = true) (hs1 : items.size ≤ sizeLine) (hs2 : items.size + items2.size ≤ sizeLine + 1) :
    Meets (Builtin.«list.extend» ⟨[.ref l, .ref b], []⟩) (fun _ R s => s.heap.get? l = some { cls := .type "list", dict := none, data := .seq items n, slots := #[] } ∧ s.heap.get? b = some { cls := .type "tuple", dict := dd, data := .seq items2 n2, slots := sl } ∧ R (.ok (.ret Value.none)) { s with heap := s.heap.update l (Obj.mapSeq fun x => x ++ items2), toks := s.toks }) :=
  .of_wp fun prog w A R s h => by
    obtain ⟨hp, g, d, tk, os⟩ := s
    obtain ⟨hl, hb, h⟩ := h
    have f1 := AutoSeq1.idx_int
    have f2 := AutoSeq1.sub_tuple_tuple
    have f3 := AutoSeq1.sub_list_list
    have f4 := AutoSeq1.sub_tuple_list
    have f5 := AutoSeq1.sub_list_tuple
    have hz' : (items ++ items2).size ≤ sizeLine + 1 := by rw [Array.size_append]; exact hs2
    wp_walk using (wpAny_updateSeq hl rfl (hz := hs1) (_hz' := hz')), AutoSeq1.wpAny_loadPart' hl, AutoSeq1.wpAny_loadPart' hb
    exact ⟨_, rfl, h⟩
theorem mt_extT : MtR X "list.extend" (fun x vs H Q => ∃ l b xs zs, x = .ref l ∧ vs = [.ref b] ∧ H l = some (.lst xs) ∧ SqT X.K H b zs ∧ xs.length + zs.length ≤ sizeLine ∧ Q .non (upd H l (.lst (xs ++ zs)))) := by
  intro pins s σ H x vs v us Q I rx rv h
  obtain ⟨l, b, xs, zs, rfl, rfl, hH, hB, hz, q⟩ := h
  cases rx
  obtain ⟨u, rfl, ru⟩ := rv.one
  cases ru
  obtain ⟨z, its, n, r, hl, e⟩ := I.lstM hH
  obtain ⟨its2, r2, ht, _⟩ := I.tuple hB
  have hl2 := r2.length
  obtain ⟨⟨cls, dd, data, sl⟩, ho, hcls, n2, hdata⟩ := ht
  simp only at hcls hdata
  subst hcls hdata
  have fits : its.toArray.size + its2.toArray.size ≤ sizeLine := by simp only [List.size_toArray]; omega
  have short : ¬ (!its.toArray.isEmpty && Builtin.List.listTooLong (its.toArray.size + its2.toArray.size)) = true := by
    rw [notLongL fits, Bool.and_false]; exact Bool.false_ne_true
  refine call_meets F.slot_list_extend ⟨_, e, rfl⟩ F.entry_list_extend (F.args_list_extend_2 _ _) (ext_tup short (by simp only [List.size_toArray]; omega) (by omega)) ⟨e, ho, ?_⟩
  exact ⟨.non, _, I.lset (its' := its ++ its2) hH e (by simp) (r.append r2) (by rw [List.length_append]; omega), rfl, q⟩
theorem mt_extA : MtR X "list.extend" (rExtA X.K) := by
  intro pins s σ H x vs v us Q I rx rv h
  obtain ⟨l, b, xs, zs, e1, e2, hH, hB | hB, hz, q⟩ := h
  · exact mt_extend pins s σ H x vs v us Q I rx rv ⟨l, b, xs, zs, e1, e2, hH, hB, hz, q⟩
  · exact mt_extT pins s σ H x vs v us Q I rx rv ⟨l, b, xs, zs, e1, e2, hH, hB, hz, q⟩
end
end DS
namespace DS
open PySem PySem.Spec PyProof.Rows L2
section
variable {X : Cx} {K : PySem.W.Frag}
mutual
theorem Dp.noDict {H : Hp} : ∀ {v : V} {d : PyData}, Dp K H v d → d.hasDict = false
  | _, _, .non => rfl
  | _, _, .bl _ => rfl
  | _, _, .int _ => rfl
  | _, _, .str _ => rfl
  | _, _, .lst _ r => DpAll.noDict r
  | _, _, .tup _ r => DpAll.noDict r
theorem DpAll.noDict {H : Hp} : ∀ {vs : List V} {ds : List PyData}, DpAll K H vs ds → PyData.hasDictAll ds = false
  | _, _, .nil => rfl
  | _, _, .cons h r => by
    show (PyData.hasDict _ || PyData.hasDictAll _) = false
    rw [Dp.noDict h, DpAll.noDict r]; rfl
end
def drRepr : DRc := fun ds μ Q => match ds with
  | [d] => match pd μ d with
    | some p => (PyData.showable p = true ∧ p.shown.length ≤ sizeLine ∧ p.depth ≤ 64) ∧ Q (.str p.shown) μ
    | none => False
  | _ => False
end

def kwG {α : Type} (ix : List (Nat ⊕ Nat)) (np nk : Nat) (us ws : List α) : List α := if us.length = np ∧ ws.length = nk then ix.filterMap fun i => match i with
  | .inl i => us[i]?
  | .inr j => ws[j]?
  else []
theorem kwG_rel {α β : Type} {R : α → β → Prop} {ix : List (Nat ⊕ Nat)} {np nk : Nat} {us ws : List α} {us' ws' : List β} (h1 : Paired R us us') (h2 : Paired R ws ws')
    (get : ∀ {xs : List α} {ys : List β} (i : Nat), Paired R xs ys → (∃ a b, xs[i]? = some a ∧ ys[i]? = some b ∧ R a b) ∨ (xs[i]? = none ∧ ys[i]? = none)) : Paired R (kwG ix np nk us ws) (kwG ix np nk us' ws') := by
  unfold kwG
  rw [Paired.length h1, Paired.length h2]
  split
  · induction ix with
    | nil => exact .nil
    | cons i r ih =>
      simp only [List.filterMap_cons]
      cases i with
      | inl i =>
        rcases get i h1 with ⟨a, b, e1, e2, q⟩ | ⟨e1, e2⟩
        · simp only [e1, e2]; exact .cons q ih
        · simp only [e1, e2]; exact ih
      | inr i =>
        rcases get i h2 with ⟨a, b, e1, e2, q⟩ | ⟨e1, e2⟩
        · simp only [e1, e2]; exact .cons q ih
        · simp only [e1, e2]; exact ih
  · exact .nil
theorem paired_get {α β : Type} {R : α → β → Prop} : ∀ {xs : List α} {ys : List β} (i : Nat), Paired R xs ys → (∃ a b, xs[i]? = some a ∧ ys[i]? = some b ∧ R a b) ∨ (xs[i]? = none ∧ ys[i]? = none)
  | _, _, _, .nil => .inr ⟨by simp, by simp⟩
  | _, _, 0, .cons q _ => .inl ⟨_, _, rfl, rfl, q⟩
  | _, _, i + 1, .cons _ r => by
    have := paired_get i r
    simpa using this
theorem kbinds_of {K : PySem.W.Frag} {x qual : Str} {st : Stmt} {f : Addr} {fd : FuncData} {ps ks : List Str} {ix : List (Nat ⊕ Nat)} {np nk : Nat} (F : Fun K x qual st f fd)
    (h : ∀ (kV doc pm : Value) (an : Option Addr) (cdv ct : Value) (us ws : List Value), us.length = np → ws.length = nk → (kwG ix np nk us ws).length = ps.length →
      bindArgs (PySem.W.fnOf x qual (defArgs st) (defBody st) (defScope st) .none kV doc pm an cdv ct) ⟨us, ks.zip ws⟩ = pure (ps.zip (kwG ix np nk us ws))) (h0 : ps ≠ []) : KBinds K fd ps ks (kwG ix np nk) (kwG ix np nk) where
  to := fun s us ws X hl => by
    obtain ⟨oc, od, kV, doc, pm, an, cdv, ct, osl, rfl, _, _⟩ := F.ex
    by_cases hh : us.length = np ∧ ws.length = nk
    · exact .of_eq (h kV doc pm an cdv ct us ws hh.1 hh.2 hl)
    · exact absurd hl (by
        unfold kwG
        rw [if_neg hh]
        intro z
        exact h0 (List.eq_nil_of_length_eq_zero z.symm))
  rel := fun r1 r2 => kwG_rel r1 r2 paired_get
section
variable {α : Type}
def valD (kvs : List (Key × α)) (k : Key) : Option α := (kvs.find? fun kv => decide (kv.1 = k)).map (·.2)
def putD (kvs : List (Key × α)) (k : Key) (v : α) : List (Key × α) :=
  if (kvs.any fun kv => decide (kv.1 = k)) = true then kvs.map (fun kv => if kv.1 = k then (kv.1, v) else kv) else kvs ++ [(k, v)]
end
def dicD (μ : Mu) : SD → Option (List (Key × SD))
  | .dic kvs => some kvs
  | .ref a => match μ a with
    | some (.dic kvs) => some kvs
    | some (.fdic kvs _) => some kvs
    | _ => none
  | _ => none
def keyD : SD → Option Key
  | .int i => some (.inl i)
  | .str s => some (.inr s)
  | _ => none
section
variable {X : Cx} {K : PySem.W.Frag} {F H : Hp} {μ : Mu}
theorem keyD_rep {d : SD} {v : V} {k : Key} (r : RepS K F d v) (h : keyD d = some k) : v = kV k := by
  cases r <;> simp [keyD] at h <;> subst h <;> rfl
structure RepK (K : PySem.W.Frag) (F : Hp) (ds : List (Key × SD)) (vs : List (Key × V)) : Prop where
  keys : vs.map (·.1) = ds.map (·.1)
  vals : RepL K F (ds.map (·.2)) (vs.map (·.2))
theorem RepK.len {ds : List (Key × SD)} {vs : List (Key × V)} (r : RepK K F ds vs) : ds.length = vs.length := by simpa using r.vals.length
theorem RepK.val : ∀ {ds : List (Key × SD)} {vs : List (Key × V)} (k : Key), RepK K F ds vs → (∃ d v, valD ds k = some d ∧ valV vs k = some v ∧ RepS K F d v) ∨ (valD ds k = none ∧ valV vs k = none)
  | [], [], _, _ => .inr ⟨rfl, rfl⟩
  | [], _ :: _, _, r => by have := r.keys; simp at this
  | _ :: _, [], _, r => by have := r.keys; simp at this
  | (a, d) :: ds, (b, v) :: vs, k, r => by
    have h1 := r.keys
    simp only [List.map_cons, List.cons.injEq] at h1
    obtain ⟨rfl, h1⟩ := h1
    have h2 := r.vals
    simp only [List.map_cons] at h2
    cases h2 with
    | cons q1 q2 =>
      by_cases hk : b = k
      · subst hk
        exact .inl ⟨d, v, by simp [valD], by simp [valV], q1⟩
      · have := RepK.val k ⟨h1, q2⟩
        have e1 : valD ((b, d) :: ds) k = valD ds k := by simp [valD, hk]
        have e2 : valV ((b, v) :: vs) k = valV vs k := by simp [valV, hk]
        rw [e1, e2]; exact this
theorem RepK.put {ds : List (Key × SD)} {vs : List (Key × V)} {d : SD} {v : V} (k : Key) (r : RepK K F ds vs) (q : RepS K F d v) : RepK K F (putD ds k d) (putK vs k v) := by
  have hany : (ds.any fun kv => decide (kv.1 = k)) = (vs.any fun kv => decide (kv.1 = k)) := by
    have e1 : (ds.any fun kv => decide (kv.1 = k)) = ((ds.map (·.1)).any fun x => decide (x = k)) := by rw [List.any_map]; rfl
    have e2 : (vs.any fun kv => decide (kv.1 = k)) = ((vs.map (·.1)).any fun x => decide (x = k)) := by rw [List.any_map]; rfl
    rw [e1, e2, r.keys]
  unfold putD putK
  rw [hany]
  split
  · have aux : ∀ {ds : List (Key × SD)} {vs : List (Key × V)}, RepK K F ds vs → RepK K F (ds.map (fun kv => if kv.1 = k then (kv.1, d) else kv)) (vs.map (fun kv => if kv.1 = k then (kv.1, v) else kv)) := by
      intro ds
      induction ds with
      | nil =>
        intro vs r
        have := r.keys
        cases vs with
        | nil => exact ⟨rfl, .nil⟩
        | cons _ _ => simp at this
      | cons a ds ih =>
        intro vs r
        cases vs with
        | nil => have := r.keys; simp at this
        | cons b vs =>
          obtain ⟨a1, a2⟩ := a
          obtain ⟨b1, b2⟩ := b
          have h1 := r.keys
          simp only [List.map_cons, List.cons.injEq] at h1
          obtain ⟨rfl, h1⟩ := h1
          have h2 := r.vals
          simp only [List.map_cons] at h2
          cases h2 with
          | cons q1 q2 =>
            have rest := ih ⟨h1, q2⟩
            by_cases hk : b1 = k
            · simp only [List.map_cons, if_pos hk]
              exact ⟨by simp only [List.map_cons]; rw [rest.keys], .cons q rest.vals⟩
            · simp only [List.map_cons, if_neg hk]
              exact ⟨by simp only [List.map_cons]; rw [rest.keys], .cons q1 rest.vals⟩
    exact aux r
  · exact ⟨by simp [r.keys], by simp only [List.map_append, List.map_cons, List.map_nil]; exact r.vals.append (.one q)⟩
theorem HReal.dic (R : HReal K F H μ) {d : SD} {v : V} {kvs : List (Key × SD)} (r : RepS K F d v) (e : dicD μ d = some kvs) : ∃ a vs, v = .ref a ∧ Rd H a (.dK vs) ∧ RepK K F kvs vs := by
  cases r with
  | dic h q r => cases e; exact ⟨_, _, rfl, R.ext.rd _ _ h, ⟨q, r⟩⟩
  | ref a =>
    unfold dicD at e
    simp only at e
    split at e
    · rename_i ys hy
      cases e
      obtain ⟨_, o, h, q⟩ := R.mus a _ hy
      cases q with
      | dic q r => exact ⟨a, _, rfl, .inl h, ⟨q, r⟩⟩
    · rename_i ys oo hy
      cases e
      obtain ⟨_, o, h, q⟩ := R.mus a _ hy
      cases q with
      | fdic q r => exact ⟨a, _, rfl, .inr ⟨_, h⟩, ⟨q, r⟩⟩
    · cases e
  | _ => cases e
variable {o i e value : Expr} {pos pos' apos cpos : Pos} {td ty tv tx : DTE}
def drGet (x y : SD) (μ2 : Mu) (Q : SD → Mu → Prop) : Prop := match dicD μ2 x, keyD y with
  | some kvs, some k => match valD kvs k with
    | some v => Q v μ2
    | none => False
  | _, _ => False
abbrev dDGet (td ty : DTE) : DTE := fun ρ μ Q => td ρ μ fun x μ1 => ty ρ μ1 fun y μ2 => drGet x y μ2 Q
theorem de_dget (hu : X.A.units + 1 < cLine) (ho : DE X o td) (hi : DE X i ty) (hs : NoSl i) : DE X (.Subscript o i pos) (dDGet td ty) := weakE (pe_dget hu ho hi hs) fun σ H Q h => by
  obtain ⟨F, ρ, μ, Q', R, S, t, k⟩ := h
  refine ⟨F, ρ, μ, _, R, S, t, fun x μ1 t1 F1 H1 v1 s1 R1 r1 => ⟨F1, ρ, μ1, _, R1, S.mono s1.ext, t1, fun y μ2 t2 F2 H2 v2 s2 R2 r2 => ?_⟩⟩
  unfold drGet at t2
  cases e1 : dicD μ2 x with
  | none => rw [e1] at t2; exact False.elim t2
  | some kvs => cases e2 : keyD y with
    | none => rw [e1, e2] at t2; exact False.elim t2
    | some key =>
      rw [e1, e2] at t2
      simp only at t2
      obtain ⟨a, vs, rfl, hd, rk⟩ := R2.dic (r1.mono s2.ext) e1
      rcases rk.val key with ⟨d, v, q1, q2, q3⟩ | ⟨q1, q2⟩
      · rw [q1] at t2
        exact ⟨a, v, rfl, .inl ⟨vs, key, hd, keyD_rep r2 e2, q2.symm⟩, k d μ2 t2 F2 H2 v (s1.trans s2) R2 q3⟩
      · rw [q1] at t2; exact False.elim t2
/-- k in d, k not in d -/
def drDIn (neg : Bool) (x y : SD) (μ2 : Mu) (Q : SD → Mu → Prop) : Prop := match dicD μ2 x, keyD y with
  | some kvs, some k => Q (.bl (neg != (valD kvs k).isSome)) μ2
  | _, _ => False
abbrev dDIn (neg : Bool) (ty td : DTE) : DTE := fun ρ μ Q => ty ρ μ fun y μ1 => td ρ μ1 fun x μ2 => drDIn neg x y μ2 Q
theorem lift_din {neg : Bool} {K : PySem.W.Frag} : ∀ σ H Q, LE K (dDIn neg ty td) σ H Q → LE K ty σ H fun y H1 => LE K td σ H1 fun x H2 => ∃ a o, x = .ref a ∧ DGet H2 a y o ∧ Q (.bl (neg != o.isSome)) H2 := fun σ H Q h => by
  obtain ⟨F, ρ, μ, Q', R, S, t, k⟩ := h
  refine ⟨F, ρ, μ, _, R, S, t, fun y μ1 t1 F1 H1 v1 s1 R1 r1 => ⟨F1, ρ, μ1, _, R1, S.mono s1.ext, t1, fun x μ2 t2 F2 H2 v2 s2 R2 r2 => ?_⟩⟩
  unfold drDIn at t2
  cases e1 : dicD μ2 x with
  | none => rw [e1] at t2; exact False.elim t2
  | some kvs => cases e2 : keyD y with
    | none => rw [e1, e2] at t2; exact False.elim t2
    | some key =>
      rw [e1, e2] at t2
      simp only at t2
      obtain ⟨a, vs, rfl, hd, rk⟩ := R2.dic r2 e1
      refine ⟨a, valV vs key, rfl, .inl ⟨vs, key, hd, keyD_rep (r1.mono s2.ext) e2, rfl⟩, ?_⟩
      have e3 : (valV vs key).isSome = (valD kvs key).isSome := by
        rcases rk.val key with ⟨d, v, q1, q2, q3⟩ | ⟨q1, q2⟩ <;> rw [q1, q2] <;> rfl
      rw [e3]
      exact k _ μ2 t2 F2 H2 _ (s1.trans s2) R2 (.bl _)
/-- d[k] = v -/
def mdic (μ : Mu) : SD → Option (Addr × List (Key × SD))
  | .ref a => match μ a with
    | some (.dic xs) => some (a, xs)
    | _ => none
  | _ => none
theorem HReal.mdic (R : HReal K F H μ) {d : SD} {v : V} {a : Addr} {xs : List (Key × SD)} (r : RepS K F d v) (h : DS.mdic μ d = some (a, xs)) : v = .ref a ∧ μ a = some (.dic xs) ∧ ∃ vs, H a = some (.dK vs) ∧ RepK K F xs vs := by
  cases r with
  | ref b =>
    unfold DS.mdic at h
    simp only at h
    split at h
    · rename_i ys hy
      cases h
      obtain ⟨_, o, h, q⟩ := R.mus _ _ hy
      cases q with
      | dic q r => exact ⟨rfl, hy, _, h, ⟨q, r⟩⟩
    · cases h
  | _ => cases h
def drPut (x y v : SD) (μ3 : Mu) (Q : Mu → Prop) : Prop := match mdic μ3 x, keyD y with
  | some (a, kvs), some k => kvs.length < sizeLine ∧ Q (up μ3 a (.dic (putD kvs k v)))
  | _, _ => False
abbrev dDPut (td ty tv : DTE) : DTS := fun D ρ μ => tv ρ μ fun v μ1 => td ρ μ1 fun x μ2 => ty ρ μ2 fun y μ3 => drPut x y v μ3 (D.nx ρ)
theorem ds_dput (hu : X.A.units + 1 < cLine) (ho : DE X o td) (hi : DE X i ty) (hv : DE X value tv) (hs : swapsWith value (some (.Subscript o i pos')) pos.line X.env = pure false) :
    DS_ X (.Assign [.Subscript o i pos'] value pos) (dDPut td ty tv) := weakS (ps_dput hu ho hi hv hs) fun D σ H h => by
  obtain ⟨F, ρ, μ, D', R, S, t, k, _⟩ := h
  refine ⟨F, ρ, μ, _, R, S, t, fun v μ1 t1 F1 H1 v1 s1 R1 r1 => ⟨F1, ρ, μ1, _, R1, S.mono s1.ext, t1, fun x μ2 t2 F2 H2 v2 s2 R2 r2 => ⟨F2, ρ, μ2, _, R2, (S.mono s1.ext).mono s2.ext, t2, fun y μ3 t3 F3 H3 v3 s3 R3 r3 => ?_⟩⟩⟩
  unfold drPut at t3
  cases e1 : mdic μ3 x with
  | none => rw [e1] at t3; exact False.elim t3
  | some pr => cases e2 : keyD y with
    | none => rw [e1, e2] at t3; exact False.elim t3
    | some key =>
      obtain ⟨a, kvs⟩ := pr
      rw [e1, e2] at t3
      simp only at t3
      obtain ⟨rfl, hm, vs, hH, rk⟩ := R3.mdic (r2.mono s3.ext) e1
      have rk2 := rk.put key (r1.mono (s2.trans s3).ext)
      refine ⟨a, _, rfl, .inl ⟨vs, key, hH, keyD_rep r3 e2, by rw [← rk.len]; exact t3.1, rfl⟩, ?_⟩
      exact k ρ _ t3.2 F3 _ σ (((s1.trans s2).trans s3).trans (Stp.put hm)) (R3.put hm (.dic rk2.keys rk2.vals)) (((S.mono s1.ext).mono s2.ext).mono s3.ext)
end
end DS
namespace DS
open PySem PySem.Spec PyProof.Rows L2
section
variable {prog : Program} {w : World} {A : Around} {E : Value → Shared → Prop} {s : Shared}
theorem places_back (n : Nat) : Builtin.Slice.slicePlaces ((n : Int) - 1) (-1) (-1) = n := by
  unfold Builtin.Slice.slicePlaces
  rw [if_neg (by decide)]
  by_cases h : 0 < n
  · rw [if_pos (by omega), show ((n : Int) - 1 - -1 - 1) / (- -1) + 1 = n by rw [show (- -1 : Int) = 1 by decide, Int.ediv_one]; omega]
    exact Int.toNat_natCast n
  · obtain rfl : n = 0 := by omega
    rfl
theorem filterMap_some {α β : Type} {f : α → Option β} {g : α → β} : ∀ l : List α, (∀ k ∈ l, f k = some (g k)) → l.filterMap f = l.map g
  | [], _ => rfl
  | a :: r, h => by rw [List.filterMap_cons, h a List.mem_cons_self, List.map_cons, filterMap_some r fun k hk => h k (List.mem_cons_of_mem _ hk)]
theorem back_pick (xs : List Value) : ((List.range xs.length).filterMap fun (k : Nat) => xs.toArray[((xs.length : Int) - 1 + (k : Int) * -1).toNat]?).toArray = xs.reverse.toArray := by
  congr 1
  have e : ∀ k ∈ List.range xs.length, xs.toArray[((xs.length : Int) - 1 + (k : Int) * -1).toNat]? = some (xs.reverse.getD k .none) := fun k hk => by
    have hk := List.mem_range.mp hk
    have e1 : ((xs.length : Int) - 1 + (k : Int) * -1).toNat = xs.length - 1 - k := by omega
    rw [e1, List.getElem?_toArray, List.getD_eq_getElem?_getD, List.getElem?_reverse hk, List.getElem?_eq_getElem (by omega)]
    rfl
  rw [filterMap_some _ e]
  apply List.ext_getElem
  · simp
  · intro i h1 h2
    simp at h1
    simp [List.getD_eq_getElem?_getD, h1]
theorem applied_back {sl : Addr} {vl vu vs : Value} {n : Nat} {Q : Int × Int × Nat → Shared → Prop} (hs : s.heap.IsSliceOf sl vl vu vs) (pl : IsPart vl none) (pu : IsPart vu none) (ps : IsPart vs (some (-1)))
    (h : Q ((n : Int) - 1, -1, n) s) : wpAny (model prog w) A (Builtin.Slice.sliceApplied (.ref sl) (pure (n : Int))) Q E s := by
  obtain ⟨os, hos, hcs, hds⟩ := id hs
  unfold Builtin.Slice.sliceApplied Builtin.Slice.sliceFields
  refine wpAny_bind (wpAny_bind (wpAny_field hos hds (x := vl) rfl (wpAny_bind (wpAny_field hos hds (x := vu) rfl (wpAny_bind (wpAny_field hos hds (x := vs) rfl (wpAny_pure ?_)))))))
  refine wpAny_bind (HT.slicePart_ ps ?_)
  show wpAny _ _ (if ((-1 : Int) == 0) = true then _ else _) _ _ s
  rw [if_neg (by decide)]
  refine wpAny_bind (HT.slicePart_ pl (wpAny_bind (HT.slicePart_ pu (wpAny_bind (wpAny_pure ?_)))))
  show wpAny _ _ (pure ((n : Int) - 1, (-1 : Int), Builtin.Slice.slicePlaces ((n : Int) - 1) (-1) (-1))) _ _ s
  rw [places_back]
  exact wpAny_pure h
theorem tuple_back {t sl : Addr} {xs : List Value} {vl vu vs : Value} {Q : Value → Shared → Prop} (ht : IsTup s.heap t xs.toArray) (hs : s.heap.IsSliceOf sl vl vu vs) (pl : IsPart vl none) (pu : IsPart vu none) (ps : IsPart vs (some (-1)))
    (h : Q (.ref s.heap.objs.size) { s with heap := s.heap.push { cls := .type "tuple", data := .seq xs.reverse.toArray } }) (hsz : xs.length ≤ sizeLine) : wpAny (model prog w) A (getItem (.ref t) (.ref sl)) Q E s := by
  have fits : sizeOk (.seq xs.reverse.toArray) := by
    show xs.reverse.toArray.size ≤ sizeLine
    rw [List.size_toArray, List.length_reverse]; exact hsz
  obtain ⟨os, hos, hcs, hds⟩ := id hs
  have hTs : s.TypeIs (.ref sl) "slice" := ⟨os, hos, hcs⟩
  unfold getItem
  try with_reducible refine wpAny_holding ?_
  first | refine wpAny_bind (wpAny_pure ?_) | skip
  refine wpAny_bind (wpAny_sequenceKey ht.typeIs (by decide) ?_)
  refine wpAny_bind (wpAny_callSpecial?_slot (name := Str.ofString "__getitem__") ht.typeIs PyProof.Rows.slot_tuple_getitem (wpAny_call_entry PyProof.Rows.slot_tuple_getitem ht.typeIs entry_tuple_getitem ?_ (args_tuple_getitem _ _)))
  show wpAny _ _ (Builtin.Tuple.tupleItemsOf (.ref t) >>= _) _ _ s
  refine wpAny_bind (tupleItemsOf_ ht ?_)
  refine wpAny_bind (wpAny_typeOf hTs ?_)
  rw [if_pos (by decide)]
  have size_ : xs.toArray.size = xs.length := List.size_toArray
  rw [size_]
  refine wpAny_bind (applied_back hs pl pu ps ?_)
  have off : ¬ (((xs.length : Int) - 1 == 0 && (-1 : Int) == 1 && xs.length == xs.length) = true) := by
    rw [show ((-1 : Int) == 1) = false by decide]; simp
  show wpAny _ _ (if ((xs.length : Int) - 1 == 0 && (-1 : Int) == 1 && xs.length == xs.length) = true then _ else _) _ _ s
  rw [if_neg off, back_pick]
  first
    | exact wpAny_bind (m := Builtin.Tuple.tupleExact _) (wpAny_newObj_type (wpAny_pure ⟨_, rfl, wpAny_pure h⟩) fits)
    | exact wpAny_bind (m := Builtin.Tuple.tupleExact _) (wpAny_newObj_type (wpAny_bind (wpAny_pure (wpAny_pure ⟨_, rfl, wpAny_pure h⟩))) fits)
    | exact wpAny_bind (wpAny_bind (m := Builtin.Tuple.tupleExact _) (wpAny_newObj_type (wpAny_pure (wpAny_pure ⟨_, rfl, wpAny_pure h⟩)) fits))
    | exact wpAny_bind (wpAny_bind (m := Builtin.Tuple.tupleExact _) (wpAny_newObj_type (wpAny_pure ⟨_, rfl, wpAny_pure h⟩) fits))
end
section
variable {X : Cx} {K : PySem.W.Frag} {e o i : Expr} {pos p1 p2 p3 : Pos} {te td : DTE} {k1 : Nat}
def tRevA (K : PySem.W.Frag) (te : TE) : TE := fun σ H Q => te σ H fun x H1 => (∃ a xs, x = .ref a ∧ SqL K H1 a xs ∧ ∀ p, H1 p = none → Q (.ref p) (upd H1 p (.lst xs.reverse))) ∨ ∃ a xs, x = .ref a ∧ SqT K H1 a xs ∧ ∀ p, H1 p = none → Q (.ref p) (upd H1 p (.tup xs.reverse))
theorem pe_revA {te : TE} (he : PE X e te) : PE X (.Subscript e (.Slice none none (some (.UnaryOp .USub (.Constant (.int 1) k1 p1) p2)) p3) pos) (tRevA X.K te) := by
  refine ⟨fun pins s σ H Q I h => Subscript_ (thn (he.run pins s σ H _ I h) fun v s1 ⟨x, H1, I1, r1, q1⟩ => ?_)⟩
  have minus1 : PO X (some (.UnaryOp .USub (.Constant (.int 1) k1 p1) p2)) (tPart (tUn (rU fun i => .int (-i)) (tC (.int 1)))) := po_some (pe_un un_neg pe_int)
  refine wpAny_Slice (thn (po_none.run pins s1 σ H1 (fun o H2 => o = none ∧ H2 = H1) I1 ⟨rfl, rfl⟩) fun vl s2 ⟨l, H2, I2, pl, el, e2⟩ => ?_)
  subst el e2
  refine thn (po_none.run pins s2 σ H2 (fun o H3 => o = none ∧ H3 = H2) I2 ⟨rfl, rfl⟩) fun vu s3 ⟨u, H3, I3, pu, eu, e3⟩ => ?_
  subst eu e3
  refine thn (minus1.run pins s3 σ H3 (fun o H4 => o = some (-1) ∧ H4 = H3) I3 ⟨1, rfl, -1, rfl, rfl, rfl⟩) fun vs s4 ⟨o, H4, I4, ps, eo, e4⟩ => ?_
  subst eo e4
  have I5 : Inv X pins σ H4 { s4 with heap := s4.heap.push { cls := .type "slice", data := .fields #[vl, vu, vs] } } := I4.kept (t' := s4.toks) fun b ob q => Heap.get?_push_of_some _ q
  rcases q1 with ⟨a, xs, rfl, hx, q⟩ | ⟨a, xs, rfl, hx, q⟩
  · cases r1
    obtain ⟨its, r, ht, hz⟩ := I5.list hx
    have len := r.length
    show wpAny (model X.prog X.w) X.A (subscriptTail e (.Slice none none (some (.UnaryOp .USub (.Constant (.int 1) k1 p1) p2)) p3) (.ref a) (.ref s4.heap.objs.size)) (EP X pins σ Q) X.xe { s4 with heap := s4.heap.push { cls := .type "slice", data := .fields #[vl, vu, vs] } }
    refine tail_any (ops := [.ref a, .ref s4.heap.objs.size]) ht.isList.typeIs (PySem.slot_list_getitem.lookup) ?_ (by with_unfolding_all rfl)
    refine wpAny_getItem_list_slice ht.isList (Heap.IsSliceOf.new _ vl vu vs) pl pu ps (by decide) ?_ (by rw [List.size_toArray]; omega)
    rw [PySem.W.krv_pick]
    refine ⟨.ref _, _, I5.laid (t' := s4.toks) (o := .lst xs.reverse) (fun b ob q => Heap.get?_push_of_some _ q) (Nat.le_refl _) ?_, rfl, q _ (I5.hok.fresh (Nat.le_refl _))⟩
    exact ⟨by rw [List.length_reverse]; exact hz, _, 0, r.reverse, Heap.get?_push_size _ rfl⟩
  · cases r1
    obtain ⟨its, r, ht, hz⟩ := I5.tuple hx
    have len := r.length
    show wpAny (model X.prog X.w) X.A (subscriptTail e (.Slice none none (some (.UnaryOp .USub (.Constant (.int 1) k1 p1) p2)) p3) (.ref a) (.ref s4.heap.objs.size)) (EP X pins σ Q) X.xe { s4 with heap := s4.heap.push { cls := .type "slice", data := .fields #[vl, vu, vs] } }
    refine tail_any (ops := [.ref a, .ref s4.heap.objs.size]) ht.typeIs (PyProof.Rows.slot_tuple_getitem.lookup) ?_ (by with_unfolding_all rfl)
    refine tuple_back ht (Heap.IsSliceOf.new _ vl vu vs) pl pu ps ?_ (by omega)
    refine ⟨.ref _, _, I5.laid (t' := s4.toks) (o := .tup xs.reverse) (fun b ob q => Heap.get?_push_of_some _ q) (Nat.le_refl _) ?_, rfl, q _ (I5.hok.fresh (Nat.le_refl _))⟩
    exact ⟨by rw [List.length_reverse]; exact hz, _, r.reverse, _, Heap.get?_push_size _ rfl, rfl, 0, rfl⟩
def drRev (x : SD) (μ1 : Mu) (Q : SD → Mu → Prop) : Prop := match x with
  | .tup xs => Q (.tup xs.reverse) μ1
  | x => match seqD μ1 x with
    | some xs => Q (.lst xs.reverse) μ1
    | none => False
abbrev dRev (te : DTE) : DTE := fun ρ μ Q => te ρ μ fun x μ1 => drRev x μ1 Q
theorem de_rev (he : DE X e te) : DE X (.Subscript e (.Slice none none (some (.UnaryOp .USub (.Constant (.int 1) k1 p1) p2)) p3) pos) (dRev te) := weakE (pe_revA he) fun σ H Q h => by
  obtain ⟨F, ρ, μ, Q', R, S, t, k⟩ := h
  refine ⟨F, ρ, μ, _, R, S, t, fun d μ1 t1 F1 H1 v s1 R1 r1 => ?_⟩
  unfold drRev at t1
  have fall : isTup d = false → (match seqD μ1 d with
    | some xs => Q' (.lst xs.reverse) μ1
    | none => False) → _ := fun ht t => show (∃ a xs, v = .ref a ∧ SqL X.K H1 a xs ∧ ∀ p, H1 p = none → Q (.ref p) (upd H1 p (.lst xs.reverse))) ∨ ∃ a xs, v = .ref a ∧ SqT X.K H1 a xs ∧ ∀ p, H1 p = none → Q (.ref p) (upd H1 p (.tup xs.reverse)) by
    cases q : seqD μ1 d with
    | none => rw [q] at t; exact False.elim t
    | some xs =>
      rw [q] at t
      obtain ⟨a, vs, rfl, r, h3⟩ := R1.seq r1 q
      rcases h3 with ⟨_, h3⟩ | ⟨z, _⟩
      · exact .inl ⟨a, vs, rfl, h3, fun q hq => k _ μ1 t _ _ _ (s1.trans (Stp.newS R1 hq)) (R1.newS hq) (.lst upd_same (r.reverse.mono (Ext.new (R1.freeF hq))))⟩
      · rw [ht] at z; cases z
  cases d with
  | tup xs =>
    cases r1 with
    | tup h r => exact .inr ⟨_, _, rfl, R1.ext.sqT h, fun q hq => k _ μ1 t1 _ _ _ (s1.trans (Stp.newS R1 hq)) (R1.newS hq) (.tup (.inl (.inl upd_same)) (r.reverse.mono (Ext.new (R1.freeF hq))))⟩
  | _ => exact fall rfl t1

def dPairs : List (DTE × DTE) → Rho → Mu → (List (SD × SD) → Mu → Prop) → Prop
  | [], _, μ, Q => Q [] μ
  | (tk, tv) :: r, ρ, μ, Q => tk ρ μ fun x μ1 => tv ρ μ1 fun y μ2 => dPairs r ρ μ2 fun ps μ3 => Q ((x, y) :: ps) μ3
def keysD : List (SD × SD) → Option (List (Key × SD))
  | [] => some []
  | (x, y) :: r => match keyD x, keysD r with
    | some k, some ks => some ((k, y) :: ks)
    | _, _ => none
def mergeD (kvs more : List (Key × SD)) : List (Key × SD) := more.foldl (fun acc kv => putD acc kv.1 kv.2) kvs
/-- a display that will not change | may change -/
def dDispS (trs : List (DTE × DTE)) : DTE := fun ρ μ Q => dPairs trs ρ μ fun ps μ1 => match keysD ps with
  | some kvs => Q (.dic (mergeD [] kvs)) μ1
  | none => False
abbrev lifts (K : PySem.W.Frag) (trs : List (DTE × DTE)) : List (TE × TE) := trs.map fun t => (LE K t.1, LE K t.2)
abbrev DPs (X : Cx) (pos : Pos) (keys : List (Option Expr)) (values : List Expr) (trs : List (DTE × DTE)) : Prop := PPs X pos keys values (lifts X.K trs)
theorem dps_nil : DPs X pos [] [] [] := pps_nil
theorem dps_cons {k v : Expr} {ks : List (Option Expr)} {vs : List Expr} {tk tv : DTE} {trs : List (DTE × DTE)} (hk : DE X k tk) (hv : DE X v tv) (hr : DPs X pos ks vs trs) : DPs X pos (some k :: ks) (v :: vs) ((tk, tv) :: trs) := pps_cons hk hv hr
theorem liftPairs : ∀ (trs : List (DTE × DTE)) {σ : L2.St} {H F : Hp} {ρ : Rho} {μ : Mu} {Q : List (V × V) → Hp → Prop} {Q' : List (SD × SD) → Mu → Prop}, HReal K F H μ → Slots K F σ ρ → dPairs trs ρ μ Q' →
    (∀ ps μ', Q' ps μ' → ∀ F' H' vs, Stp F H μ F' H' μ' → HReal K F' H' μ' → vs.length = trs.length → Paired (fun (p : SD × SD) (q : V × V) => RepS K F' p.1 q.1 ∧ RepS K F' p.2 q.2) ps vs → Q vs H') → tPairs (lifts K trs) σ H Q
  | [], σ, H, F, ρ, μ, Q, Q', R, S, t, k => k [] μ t F H [] (Stp.refl _ _ _) R rfl .nil
  | (tk, tv) :: r, σ, H, F, ρ, μ, Q, Q', R, S, t, k => by
    refine ⟨F, ρ, μ, _, R, S, t, fun x μ1 t1 F1 H1 v1 s1 R1 r1 => ⟨F1, ρ, μ1, _, R1, S.mono s1.ext, t1, fun y μ2 t2 F2 H2 v2 s2 R2 r2 => ?_⟩⟩
    refine liftPairs r R2 ((S.mono s1.ext).mono s2.ext) t2 fun ps μ3 t3 F3 H3 vs s3 R3 hl3 r3 => ?_
    exact k _ μ3 t3 F3 H3 _ ((s1.trans s2).trans s3) R3 (by simp [hl3]) (.cons ⟨(r1.mono s2.ext).mono s3.ext, r2.mono s3.ext⟩ r3)
theorem keysD_rep {F : Hp} : ∀ {ps : List (SD × SD)} {vs : List (V × V)} {kvs : List (Key × SD)}, Paired (fun (p : SD × SD) (q : V × V) => RepS K F p.1 q.1 ∧ RepS K F p.2 q.2) ps vs → keysD ps = some kvs →
    ∃ ws : List (Key × V), vs = ws.map (fun kv => (kV kv.1, kv.2)) ∧ RepK K F kvs ws ∧ ws.length = vs.length
  | _, _, _, .nil, e => by cases e; exact ⟨[], rfl, ⟨rfl, .nil⟩, rfl⟩
  | (x, y) :: ps, (v, u) :: vs, _, .cons q r, e => by
    unfold keysD at e
    cases e1 : keyD x with
    | none => rw [e1] at e; cases e
    | some k => cases e2 : keysD ps with
      | none => rw [e1, e2] at e; cases e
      | some ks =>
        rw [e1, e2] at e
        cases e
        obtain ⟨ws, h1, h2, h3⟩ := keysD_rep r e2
        have hk : v = kV k := keyD_rep q.1 e1
        subst hk
        exact ⟨(k, u) :: ws, by rw [List.map_cons, ← h1], ⟨by simp [h2.keys], .cons q.2 h2.vals⟩, by simp [h3]⟩
theorem RepK.merge {F : Hp} : ∀ {more : List (Key × SD)} {mv : List (Key × V)} {kvs : List (Key × SD)} {vs : List (Key × V)}, RepK K F kvs vs → RepK K F more mv → RepK K F (mergeD kvs more) (mergeK vs mv)
  | [], [], _, _, r, _ => r
  | [], _ :: _, _, _, _, r => by have := r.keys; simp at this
  | _ :: _, [], _, _, _, r => by have := r.keys; simp at this
  | (a, d) :: more, (b, v) :: mv, kvs, vs, r, m => by
    have h1 := m.keys
    simp only [List.map_cons, List.cons.injEq] at h1
    obtain ⟨rfl, h1⟩ := h1
    have h2 := m.vals
    simp only [List.map_cons] at h2
    cases h2 with
    | cons q1 q2 =>
      show RepK K F (mergeD (putD kvs b d) more) (mergeK (putK vs b v) mv)
      exact RepK.merge (r.put b q1) ⟨h1, q2⟩
theorem liftDisp {trs : List (DTE × DTE)} {σ : L2.St} {H F : Hp} {ρ : Rho} {μ : Mu} {Q : VK} {Q' : List (SD × SD) → Mu → Prop} (h15 : trs.length ≤ 15) (R : HReal K F H μ) (S : Slots K F σ ρ) (t : dPairs trs ρ μ Q')
    (k : ∀ ps μ', Q' ps μ' → ∃ kvs, keysD ps = some kvs ∧ ∀ F' H' p ws, Stp F H μ F' H' μ' → HReal K F' H' μ' → F' p = none → μ' p = none → H' p = some (.dK ws) → RepK K F' (mergeD [] kvs) ws → (∀ a, H a ≠ none → F a = none → μ a = none → a ≠ p) → Q (.ref p) H') : tDisp (lifts K trs) σ H Q := by
  intro p hp
  have hF := R.freeF hp
  have hM := R.freeM hp
  refine liftPairs trs (R.aside (o := .dK []) hF hM) S t fun ps μ' t' F' H' vs s R' hl r => ?_
  · obtain ⟨kvs, e, k⟩ := k ps μ' t'
    obtain ⟨q1, q2, q3⟩ := s.fr p (by rw [upd_same]; exact fun z => nomatch z) hF hM
    obtain ⟨ws, h1, h2, h3⟩ := keysD_rep r e
    refine ⟨by rw [q1, upd_same], ws, h1, by rw [h3, hl]; exact h15, ?_⟩
    have ne : ∀ a, H a ≠ none → a ≠ p := fun a ha z => by subst z; exact ha hp
    refine k F' _ p (mergeK [] ws) ⟨s.ext, fun a a1 a2 a3 => ?_⟩ (R'.aside q2 q3) q2 q3 upd_same (RepK.merge ⟨rfl, .nil⟩ h2) fun a a1 _ _ => ne a a1
    have na := ne a a1
    obtain ⟨b1, b2, b3⟩ := s.fr a (by rw [upd_ne na]; exact a1) a2 a3
    exact ⟨by rw [upd_ne na, b1, upd_ne na], b2, b3⟩
theorem de_dispS {keys : List (Option Expr)} {values : List Expr} {trs : List (DTE × DTE)} (h : DPs X pos keys values trs) (hall : keys.all (·.isSome) = true) (hl : keys.length = values.length) (h0 : keys ≠ []) (h15 : keys.length ≤ 15) (ht : trs.length ≤ 15) : DE X (.Dict keys values pos) (dDispS trs) :=
  weakE (pe_disp h hall hl h0 h15) fun σ H Q h => by
    obtain ⟨F, ρ, μ, Q', R, S, t, k⟩ := h
    refine liftDisp ht R S t fun ps μ' t' => ?_
    cases e : keysD ps with
    | none => rw [e] at t'; exact False.elim t'
    | some kvs =>
      rw [e] at t'
      refine ⟨kvs, rfl, fun F' H' p ws s R' f m hp rk ne => ?_⟩
      have ex : Ext F' (upd F' p (.dK ws)) := Ext.new f
      refine k _ μ' t' (upd F' p (.dK ws)) H' (.ref p) ⟨s.ext.trans ex, fun a h1 h2 h3 => ?_⟩ (R'.adopt f m hp) (.dic (.inl upd_same) rk.keys (rk.vals.mono ex))
      obtain ⟨q1, q2, q3⟩ := s.fr a h1 h2 h3
      exact ⟨q1, by rw [upd_ne (ne a h1 h2 h3)]; exact q2, q3⟩
/-- {} -/
abbrev dDict0M : DTE := fun _ μ Q => ∀ p, μ p = none → Q (.ref p) (up μ p (.dic []))
abbrev dDict0S : DTE := fun _ μ Q => Q (.dic []) μ
theorem de_dict0M : DE X (.Dict [] [] pos) dDict0M := weakE pe_dnewK fun σ H Q h => by
  obtain ⟨F, ρ, μ, Q', R, S, t, k⟩ := h
  exact fun p hp => k _ _ (t p (R.freeM hp)) _ _ _ (Stp.newM R hp) (R.newM hp (.dic rfl .nil)) (.ref p)
theorem de_dict0S : DE X (.Dict [] [] pos) dDict0S := weakE pe_dnewK fun σ H Q h => by
  obtain ⟨F, ρ, μ, Q', R, S, t, k⟩ := h
  exact fun p hp => k _ _ t _ _ _ (Stp.newS R hp) (R.newS hp) (.dic (.inl upd_same) rfl .nil)

theorem RepK.get {F : Hp} {ds : List (Key × SD)} {vs : List (Key × V)} (r : RepK K F ds vs) {i : Nat} {k : Key} {v : V} (h : vs[i]? = some (k, v)) : ∃ d, ds[i]? = some (k, d) ∧ RepS K F d v := by
  have h1 : (vs.map (·.2))[i]? = some v := by rw [List.getElem?_map, h]; rfl
  obtain ⟨d, h2, h3⟩ := r.vals.getV h1
  have h4 : (ds.map (·.1))[i]? = some k := by rw [← r.keys, List.getElem?_map, h]; rfl
  rw [List.getElem?_map] at h2 h4
  cases e : ds[i]? with
  | none => rw [e] at h2; cases h2
  | some p =>
    rw [e] at h2 h4
    obtain ⟨a, b⟩ := p
    cases h2; cases h4
    exact ⟨_, rfl, h3⟩
end
end DS
namespace DS
end DS
namespace DS
open PySem PySem.Spec PyProof.Rows L2
section
variable {X : Cx} {K : PySem.W.Frag} {a : Expr} {pos pos' : Pos} {j : Nat} {ta : DTE}
def isNon : SD → Bool
  | .non => true
  | _ => false
theorem isNon_rep {F : Hp} {d : SD} {v : V} (r : RepS K F d v) : decide (v = .non) = isNon d := by
  cases r <;> simp [isNon]
abbrev dIsN (ta : DTE) : DTE := fun ρ μ Q => ta ρ μ fun x μ1 => Q (.bl (isNon x)) μ1
abbrev dNotN (ta : DTE) : DTE := fun ρ μ Q => ta ρ μ fun x μ1 => Q (.bl (!isNon x)) μ1
theorem de_notN {j pos'} (ha : DE X a ta) : DE X (.Compare a [.IsNot] [.Constant .none j pos'] pos) (dNotN ta) := weakE (pe_cmp (pc_notN ha) rfl) fun σ H Q h => by
  obtain ⟨F, ρ, μ, Q', R, S, t, k⟩ := h
  exact ⟨F, ρ, μ, _, R, S, t, fun d μ1 t1 F1 H1 v s1 R1 r1 => k _ μ1 t1 F1 H1 _ s1 R1 (by rw [isNon_rep r1]; exact .bl _)⟩
theorem dt_isN {j pos'} (ha : DE X a ta) : DT X (.Compare a [.Is] [.Constant .none j pos'] pos) (dTest (dIsN ta)) := weakT (pt_cmp (pc_isN ha) rfl) fun σ H Q h => by
  obtain ⟨F, ρ, μ, Q', R, S, t, k⟩ := h
  exact ⟨F, ρ, μ, _, R, S, t, fun d μ1 t1 F1 H1 v s1 R1 r1 => ⟨_, by rw [isNon_rep r1], k _ μ1 t1 F1 H1 s1 R1⟩⟩
abbrev dGt : DR2 := dCmp (fun i j => decide (j < i)) fun s t => decide (t < s)
theorem opr_gt : OpR X (compareOp .Gt) (rCmp (fun i j => decide (j < i)) fun s t => decide (t < s)) := op_gt.or op_gt_str
abbrev dLe : DR2 := dCmp (fun i j => decide (i ≤ j)) fun s t => !decide (t < s)
theorem opr_le : OpR X (compareOp .LtE) (rCmp (fun i j => decide (i ≤ j)) fun s t => !decide (t < s)) := op_le.or op_le_str
abbrev dGe : DR2 := dCmp (fun i j => decide (j ≤ i)) fun s t => !decide (s < t)
theorem opr_ge : OpR X (compareOp .GtE) (rCmp (fun i j => decide (j ≤ i)) fun s t => !decide (s < t)) := op_ge.or op_ge_str
def tyD (μ : Mu) : SD → Option String
  | .non => some "NoneType"
  | .bl _ => some "bool"
  | .int _ => some "int"
  | .str _ => some "str"
  | .tup _ => some "tuple"
  | .lst _ => some "list"
  | .rol _ => some "list"
  | .dic _ => some "dict"
  | .ref a => match μ a with
    | some (.lst _) => some "list"
    | some (.dic _) => some "dict"
    | _ => none
  | .ty _ => none
  | .exc _ _ => none
  | .ptp _ => none
theorem HReal.ty {F H : Hp} {μ : Mu} (R : HReal K F H μ) {d : SD} {v : V} {t : String} (r : RepS K F d v) (h : tyD μ d = some t) : TyX K H v (.type t) := by
  cases r with
  | non => cases h; exact .base .non
  | bl b => cases h; exact .base (.bl b)
  | int i => cases h; exact .base (.int i)
  | str x => cases h; exact .base (.str x)
  | ty n => cases h
  | tup q _ =>
    cases h
    rcases R.ext.sqT q with (q | ⟨o, q⟩) | ⟨o, its, n, q, c, _⟩
    · exact .base (.tup q)
    · exact .fTuple q
    · exact .kTuple q c
  | lst q _ => cases h; exact .base (.lst (R.ext.ls _ _ q))
  | rol q _ =>
    cases h
    rcases R.ext.sqL q with (q | ⟨o, q⟩) | ⟨o, its, n, q, c, _⟩
    · exact .base (.lst q)
    · exact .base (.frz q)
    · exact .kList q c
  | dic q _ _ =>
    cases h
    rcases R.ext.rd _ _ q with q | ⟨o, q⟩
    · exact .base (.dK q)
    · exact .fDict q
  | ref a =>
    simp only [tyD] at h
    split at h
    · rename_i xs e
      cases h
      obtain ⟨_, o, q, ro⟩ := R.mus a _ e
      cases ro; exact .base (.lst q)
    · rename_i xs e
      cases h
      obtain ⟨_, o, q, ro⟩ := R.mus a _ e
      cases ro; exact .base (.dK q)
    · cases h
  | exc0 _ _ => cases h
  | exc _ _ _ _ _ => cases h
  | ptp _ _ _ => cases h
def isiB (μ : Mu) (d : SD) (n : String) : Option Bool := match tyD μ d with
  | some t => kitB t n
  | none => none
def drIsi : DRc := fun ds μ Q => match ds with
  | [d, .ty n] => match isiB μ d n with
    | some b => Q (.bl b) μ
    | none => False
  | _ => False
theorem lc_isi : LRc K drIsi (rIsi K) := fun F H μ xs ds Q' Q R r t k => by
  unfold drIsi at t
  split at t
  · rename_i d n
    cases r with
    | cons r1 r2 => cases r2 with
      | cons r2 r3 =>
        cases r2; cases r3
        split at t
        · rename_i b e
          unfold isiB at e
          split at e
          · rename_i T eT
            exact ⟨_, _, _, _, b, rfl, .ty n, R.ty r1 eT, kit_ty e, k _ _ t _ _ _ (Stp.refl _ _ _) R (.bl b)⟩
          · cases e
        · exact t.elim
  · exact t.elim
/-- the name of a built-in type -/
theorem de_ty {x : Str} {T : String} {p : Pos} (hg : Gl X x) (hm : X.mg x = none) (hv : bootBuiltins x = some (.type T)) (hn : x ≠ "__name__" := by decide) (hd : (x == ("__debug__" : Str)) = false := by decide) : DE X (.Name x p) (dC (.ty T)) :=
  liftC (t := tC (.ty T)) (pe_bltn hg hm hv (show RelV (.ty T) (Value.type T) from rfl) hn hd) rfl
end
/-- a def that stands in the written part -/
structure Def (K : PySem.W.Frag) (mg : Str → Option Value) (x : Str) (st : Stmt) (ps : List Str) where
  f : Addr
  fd : FuncData
  F : Fun K x x st f fd
  m : mg x = some (.ref f)
  b : Binds K fd ps []
section
variable {X : Cx} {k n : Nat} {x : Str} {st : Stmt} {ps ks : List Str} {sp : DSp} {p pos : Pos} {e : Expr} {es : List Expr} {kws : List Keyword} {t tk : DTA}
abbrev FnD (P : Program) (w : World) (base : Heap) {K : PySem.W.Frag} {mg : Str → Option Value} {x : Str} {st : Stmt} {ps : List Str} (D : Def K mg x st ps) (k : Nat) (sp : DSp) : Prop := FnG P w K mg base CX0 k D.f D.fd ps (LSp K sp)
theorem Room.le {A : Around} (h : Room n A) (hk : k ≤ n) : Room k A := h.mono hk
theorem de_def {D : Def X.K X.mg x st ps} (F : FnD X.prog X.w X.base D k sp) (hq : Quiet X.A) (hr : Room n X.A) (ha : DA X (e :: es) t) (hk : k ≤ n := by omega) (hg : Gl X x := by rfl)
    (hdb : (x == ("__debug__" : Str)) = false := by decide) (he : starEach (e :: es) X.env = (false, eval e X.env) :: starEach es X.env := by rfl) (hpl : (backTo pos (starEach es X.env)).any (·.1) = false := by rfl) :
    DE X (.Call (.Name x p) (e :: es) [] pos) (dCall sp [] t) := de_call F hq (hr.mono hk) hg D.m D.F.kp D.b pass0 ha hdb he hpl
theorem dv (i : Nat) {x : Str} {pos : Pos} (hN : X.N[i]? = some x := by rfl) (hv : Vis X.env.scope x := by first | exact Or.inl rfl | exact Or.inr (Or.inl rfl) | exact Or.inr (Or.inr rfl)) (hd : (x == ("__debug__" : Str)) = false := by decide)
    (hcd : (x == ("__classdict__" : Str)) = false := by decide) : DE X (.Name x pos) (dVar i) := de_var hN hv hd hcd
end
theorem bt_len : bootBuiltins "len" = some (.builtin "len") := by decide +kernel
theorem bt_repr : bootBuiltins "repr" = some (.builtin "repr") := by decide +kernel
theorem bt_abs : bootBuiltins "abs" = some (.builtin "abs") := by decide +kernel
theorem bt_min : bootBuiltins "min" = some (.builtin "min") := by decide +kernel
theorem bt_max : bootBuiltins "max" = some (.builtin "max") := by decide +kernel
theorem bt_all : bootBuiltins "all" = some (.builtin "all") := by decide +kernel
theorem bt_isinstance : bootBuiltins "isinstance" = some (.builtin "isinstance") := by decide +kernel
theorem bt_int : bootBuiltins "int" = some (.type "int") := by decide +kernel
theorem bt_bool : bootBuiltins "bool" = some (.type "bool") := by decide +kernel
theorem bt_str : bootBuiltins "str" = some (.type "str") := by decide +kernel
theorem bt_tuple : bootBuiltins "tuple" = some (.type "tuple") := by decide +kernel
end DS
namespace DS
open PySem PySem.Spec PyProof.Rows L2
section
variable {X : Cx} {o e i a b : Expr} {es : List Expr} {apos cpos p pos : Pos} {to te ti td ty : DTE} {t : DTA} {k : Nat}
theorem de_append (ho : DE X o to) (ha : DE X e te) (hs : starEach [e] X.env = (false, eval e X.env) :: starEach [] X.env := by rfl) (hbase : attributeBase o "append" X.env (eval o X.env) = eval o X.env := by rfl)
    (hfew : ((backTo cpos (starEach [e] X.env)).all (fun x => !x.1) && (backToKw cpos (keywordEach [] X.env)).all (fun x => x.1.isSome) && decide (([e] : List Expr).length + ([] : List Keyword).length + (if ([] : List Keyword).isEmpty then 0 else 1) < 30)) = true := by rfl)
    (hline : (apos.endLine == cpos.line) = true := by rfl) (hplain : (backTo cpos (starEach [] X.env)).any (·.1) = false := by rfl) :
    DE X (.Call (.Attribute o "append" apos) [e] [] cpos) (dLM dmAppend to (dCons te dNil)) := de_lm F.plainAttrs_list F.slot_list_append F.type_list_append mt_append lm_append ho (da_cons ha da_nil hs) hbase hfew hline hs hplain
theorem de_extend (ho : DE X o to) (ha : DE X e te) (hs : starEach [e] X.env = (false, eval e X.env) :: starEach [] X.env := by rfl) (hbase : attributeBase o "extend" X.env (eval o X.env) = eval o X.env := by rfl)
    (hfew : ((backTo cpos (starEach [e] X.env)).all (fun x => !x.1) && (backToKw cpos (keywordEach [] X.env)).all (fun x => x.1.isSome) && decide (([e] : List Expr).length + ([] : List Keyword).length + (if ([] : List Keyword).isEmpty then 0 else 1) < 30)) = true := by rfl)
    (hline : (apos.endLine == cpos.line) = true := by rfl) (hplain : (backTo cpos (starEach [] X.env)).any (·.1) = false := by rfl) :
    DE X (.Call (.Attribute o "extend" apos) [e] [] cpos) (dLM dmExtend to (dCons te dNil)) := de_lm F.plainAttrs_list F.slot_list_extend F.type_list_extend mt_extA lm_extend ho (da_cons ha da_nil hs) hbase hfew hline hs hplain
theorem de_pop (ho : DE X o to) (hbase : attributeBase o "pop" X.env (eval o X.env) = eval o X.env := by rfl) (hline : (apos.endLine == cpos.line) = true := by rfl) :
    DE X (.Call (.Attribute o "pop" apos) [] [] cpos) (dLM0 dmPop to) := de_lm0 F.plainAttrs_list F.slot_list_pop F.type_list_pop mt_pop lm_pop ho hbase hline
theorem dt_din (hu : X.A.units + 1 < cLine) (hi : DE X i ty) (ho : DE X o td) (hm : behindInMarks .In o = false := by with_unfolding_all rfl) : DT X (.Compare i [.In] [o] pos) (dTest (dDIn false ty td)) := weakT (pt_cmp (pc_din hu hi ho) hm) fun σ H Q h => by
  obtain ⟨F, ρ, μ, Q', R, S, t, k⟩ := h
  have := lift_din (neg := false) σ H (fun x H' => ∃ c, x = V.bl c ∧ Q c H') ⟨F, ρ, μ, _, R, S, t, fun d μ' q F' H' v s R' r' => ?_⟩
  · simpa [tB, tDIn] using this
  cases r' with
  | bl b => exact ⟨b, rfl, k b μ' q F' H' s R'⟩
  | _ => exact q.elim
end
theorem len_of {sp : DSp} {n : Nat} (h : ∀ ds μ Q E, sp ds μ Q E → ds.length = n) {ps : List Str} (e : ps.length = n := by rfl) : ∀ ds μ Q E, sp ds μ Q E → ds.length = ps.length := fun ds μ Q E q => (h ds μ Q E q).trans e.symm
theorem unit64 {A : Around} {k : Nat} (h : Room k A) : A.units + 64 < cLine := by have := h.un; omega
theorem unit66 {A : Around} {k : Nat} (h : Room k A) : A.units + 66 < cLine := by have := h.un; omega
end DS
namespace DS
open PySem PySem.Spec PyProof.Rows L2
section
variable {X : Cx} {e tg : Expr} {pos : Pos}
/-- texts of a list or tuple -/
def strsOf : List SD → Option (List Str)
  | [] => some []
  | .str s :: r => match strsOf r with
    | some l => some (s :: l)
    | none => none
  | _ :: _ => none
theorem strsOf_rep : ∀ {F : Hp} {K : PySem.W.Frag} {ds : List SD} {vs : List V} {l : List Str}, RepL K F ds vs → strsOf ds = some l → vs = l.map V.str
  | _, _, [], _, _, .nil, e => by cases e; rfl
  | _, _, d :: ds, _, l, .cons q r, e => by
    cases d with
    | str s =>
      unfold strsOf at e
      cases e2 : strsOf ds with
      | none => rw [e2] at e; cases e
      | some l2 => rw [e2] at e; cases e; cases q; rw [strsOf_rep r e2]; rfl
    | _ => cases e
theorem strsOf_map (l : List Str) : strsOf (l.map SD.str) = some l := by
  induction l with
  | nil => rfl
  | cons a r ih => rw [List.map_cons, strsOf, ih]
def drJoin (x y : SD) (μ : Mu) (Q : SD → Mu → Prop) : Prop := match x with
  | .str a => match seqD μ y with
    | some ds => match strsOf ds with
      | some ys => (ys.map (·.length)).sum + ys.length * a.length ≤ 16777216 ∧ Q (.str (Txt.join a ys)) μ
      | none => False
    | none => False
  | _ => False
def isStr : SD → Bool
  | .str _ => true
  | _ => false
abbrev dJoin (to te : DTE) : DTE := fun ρ μ Q => to ρ μ fun x μ1 => isStr x = true ∧ te ρ μ1 fun y μ2 => drJoin x y μ2 Q
theorem de_join {o e : Expr} {to te : DTE} {apos pos : Pos} (ho : DE X o to) (he : DE X e te) (hs : starEach [e] X.env = [(false, eval e X.env)] := by rfl) (hbase : attributeBase o "join" X.env (eval o X.env) = eval o X.env := by rfl) (hline : (apos.endLine == pos.line) = true := by rfl) :
    DE X (.Call (.Attribute o "join" apos) [e] [] pos) (dJoin to te) := weakE (pe_join ho he hs hbase hline) fun σ H Q h => by
  obtain ⟨F, ρ, μ, Q', R, S, t, k⟩ := h
  refine ⟨F, ρ, μ, _, R, S, t, fun d μ1 t1 F1 H1 v s1 R1 r1 => ?_⟩
  obtain ⟨hst, t1⟩ := t1
  cases d with
  | str a =>
    cases r1
    refine ⟨⟨a, rfl⟩, F1, ρ, μ1, _, R1, S.mono s1.ext, t1, fun y μ2 t2 F2 H2 w s2 R2 r2 => ?_⟩
    unfold drJoin at t2
    simp only at t2
    split at t2
    · rename_i ds e
      split at t2
      · rename_i ys e2
        obtain ⟨p, vs, rfl, rl, hq⟩ := R2.seq' r2 e
        obtain rfl := strsOf_rep rl e2
        exact ⟨a, p, ys, rfl, rfl, hq, t2.1, k _ _ t2.2 F2 H2 _ (s1.trans s2) R2 (.str _)⟩
      · exact t2.elim
    · exact t2.elim
  | _ => cases hst
/-- a text that the module has named -/
theorem de_gstr {x : Str} {y : Str} {p : Pos} (h : ∃ t, X.mg x = some (.str y t)) (hg : Gl X x := by rfl) (hd : (x == ("__debug__" : Str)) = false := by decide) : DE X (.Name x p) (dC (.str y)) := by
  obtain ⟨t, h⟩ := h
  exact liftC (t := tC (.str y)) (pe_glob hg h (show RelV (.str y) (Value.str y t) from ⟨t, rfl⟩) hd) rfl
theorem de_gint {x : Str} {i : Int} {p : Pos} (h : ∃ t, X.mg x = some (.int i t)) (hg : Gl X x := by rfl) (hd : (x == ("__debug__" : Str)) = false := by decide) : DE X (.Name x p) (dC (.int i)) := by
  obtain ⟨t, h⟩ := h
  exact liftC (t := tC (.int i)) (pe_glob hg h (show RelV (.int i) (Value.int i t) from ⟨t, rfl⟩) hd) rfl
end
end DS
namespace DS
open PySem PySem.Spec PyProof.Rows L2
/-- u: the different ones of l -/
structure Dist {α : Type} (l u : List α) : Prop where
  nd : u.Nodup
  mem : ∀ k, k ∈ u ↔ k ∈ l
theorem Dist.nil {α : Type} {l : List α} : Dist (l.take 0) [] := ⟨List.nodup_nil, fun k => by simp⟩
theorem strsAre_len {vs : List Value} {ns : List Str} (h : StrsAre vs ns) : vs.length = ns.length := by
  induction h with
  | nil => rfl
  | cons k t r ih => exact congrArg (· + 1) ih
theorem strsAre_at {vs : List Value} {ns : List Str} (h : StrsAre vs ns) : ∀ (i : Nat) (v : Value), vs[i]? = some v → ∃ (k : Str) (t : Tok), ns[i]? = some k ∧ v = Value.str k t := by
  induction h with
  | nil => intro i v e; simp at e
  | cons k t r ih =>
    intro i v e
    cases i with
    | zero => simp at e; subst e; exact ⟨_, _, rfl, rfl⟩
    | succ i =>
      obtain ⟨k', t', a, b⟩ := ih i v (by simpa using e)
      exact ⟨k', t', by simpa using a, b⟩
abbrev eset (w : World) : Obj := { cls := .type "set", dict := none, data := .set #[] 0 (.fresh 0 0 (!w.params.followText "set-order")) }
/-- the set at a: S says who is in, n how many; its table stands in order -/
def TxR (P : Program) (w : World) (h : Heap) (a : Addr) (S : Str → Bool) (n : Nat) : Prop := ∃ o es ep t, h.get? a = some o ∧ o.ExactSet ∧ o.data = .set es ep t ∧ ElemsOf (strKind P w) es.toList ∧ (∀ k, S k = true ↔ ∃ e ∈ es.toList, (strKind P w).is k e.2 = true) ∧
  es.size < scanBound ∧ t.fits es.size = true ∧ es.size = n ∧ Ris t.place.toList ∧ (w.params.followText "set-order" = true ∨ t.led = true)
section
variable {P : Program} {w : World} {A : Around} {E : Value → Shared → Prop} {s : Shared} {a : Addr} {S : Str → Bool} {n : Nat}
theorem TxR.keep {h h' : Heap} (R : TxR P w h a S n) (k : ∀ o, h.get? a = some o → h'.get? a = some o) : TxR P w h' a S n := by
  obtain ⟨o, es, ep, t, ho, r⟩ := R
  exact ⟨o, es, ep, t, k o ho, r⟩
theorem txR_new {h : Heap} (ho : h.get? a = some (eset w)) : TxR P w h a (fun k => decide (k ∈ ([] : List Str))) 0 :=
  ⟨_, #[], 0, _, ho, ⟨rfl, rfl, rfl⟩, rfl, (fun e he => by simp at he), (fun k => by simp), (by decide), (by rfl), rfl, List.Pairwise.nil, (by
    cases w.params.followText "set-order" with
    | true => exact .inl rfl
    | false => exact .inr rfl)⟩
/-- the end of an adding: the table is stored, and grows -/
theorem txR_tail {g : Bool → Sem Unit} (hg : ∀ (b : Bool) (s₁ : Shared) (R : Unit → Shared → Prop), R () s₁ → wpAny (model P w) A (g b) R E s₁) {o : Obj} {es es1 : Array (Int × Value)} {ep : Nat} {t t2 : SetTable} {S' : Str → Bool} {was : Bool} {R : Option Bool → Shared → Prop}
    (ho : s.heap.get? a = some o) (hex : o.ExactSet) (hd : o.data = .set es ep t) (el : ElemsOf (strKind P w) es1.toList) (me : ∀ k, S' k = true ↔ ∃ e ∈ es1.toList, (strKind P w).is k e.2 = true) (hb : es1.size < scanBound) (hf : t2.fits es1.size = true)
    (hr : Ris t2.place.toList) (hl : w.params.followText "set-order" = true ∨ t2.led = true) (k : ∀ h', Heap.SameBut a s.heap h' → TxR P w h' a S' es1.size → R (some true) { s with heap := h' }) :
    wpAny (model P w) A (do
        storeSet a es1 t2
        if (!was && t2.tooFull) = true then do
            g (relayAll t2 es1 (SetTable.grown es1.size)).2.2
            storeSet a (relayAll t2 es1 (SetTable.grown es1.size)).1 (relayAll t2 es1 (SetTable.grown es1.size)).2.1
            pure (some true)
          else pure (some true)) R E s := by
  refine wpAny_bind (wpAny_storeSet_of ho hd ?_ (fits_of_scanBound hb))
  obtain ⟨o1, _⟩ := SetOf_store (knd := strKind P w) ho hex hd el me hb hf
  have b1 := Heap.SameBut.update s.heap a (Obj.putSet es1 t2)
  split
  · have p := relayAll_perm t2 es1 (SetTable.grown es1.size)
    have f3 := relayAll_fits t2 es1 (SetTable.grown es1.size)
    have r3 := relayAll_ris t2 es1 (SetTable.grown es1.size)
    have l3 := relayAll_led t2 es1 (SetTable.grown es1.size)
    generalize relayAll t2 es1 (SetTable.grown es1.size) = Y at p f3 r3 l3 ⊢
    obtain ⟨es2, t3, way⟩ := Y
    dsimp only at p f3 r3 l3 ⊢
    have many : es2.size = es1.size := by simpa using p.length_eq
    have el2 := el.perm p
    have me2 : ∀ k, S' k = true ↔ ∃ e ∈ es2.toList, (strKind P w).is k e.2 = true := fun k => by
      rw [me k]
      exact ⟨fun ⟨e, he, q⟩ => ⟨e, p.mem_iff.mpr he, q⟩, fun ⟨e, he, q⟩ => ⟨e, p.mem_iff.mp he, q⟩⟩
    have hb2 : es2.size < scanBound := by omega
    refine wpAny_bind (hg _ _ _ ?_)
    refine wpAny_bind (wpAny_storeSet_of o1 rfl ?_ (fits_of_scanBound hb2))
    obtain ⟨o2, _⟩ := SetOf_store (knd := strKind P w) o1 hex rfl el2 me2 hb2 f3
    exact wpAny_pure (k _ (b1.trans (Heap.SameBut.update _ a _)) ⟨_, es2, _, t3, o2, hex, rfl, el2, me2, hb2, f3, many, r3, hl.imp id fun z => by rw [l3]; exact z⟩)
  · exact wpAny_pure (k _ b1 ⟨_, es1, _, t2, o1, hex, rfl, el, me, hb, hf, rfl, hr, hl⟩)
theorem txR_add {z : Str} {tk : Tok} {Q : Bool → Shared → Prop} (R : TxR P w s.heap a S n) (room : n + 1 < scanBound)
    (hQ : ∀ h', Heap.SameBut a s.heap h' → TxR P w h' a (fun j => S j || decide (j = z)) (if S z = true then n else n + 1) → Q (!S z) { s with heap := h' }) :
    wpAny (model P w) A (setAddHashed a (.str z tk) ((strKind P w).hash z)) Q E s := by
  obtain ⟨o, es, ep, t, ho, hex, hd, el, me, hb, hf, hn, hr, hl⟩ := R
  have isz := strKind_is P w z tk
  have scan : (Value.str z tk).scannable = true := rfl
  unfold setAddHashed setAddHashedIn
  refine wpAny_holding (wpAny_bind (wpAny_setState_of ho hd hf ?_))
  dsimp only
  rw [byScan_of scan hb el]
  simp only [↓reduceIte]
  unfold setAddByScan
  refine wpAny_bind (wpAny_bind (wpAny_rule (wpAny_bind (wpAny_setScan_of isz ho hd hf el ?_))))
  cases hfi : List.findIdx? (fun e => (strKind P w).is z e.2) es.toList with
  | some j =>
    dsimp only
    obtain ⟨hj, pj, _⟩ := List.findIdx?_eq_some_iff_getElem.mp hfi
    have inS : S z = true := (me z).mpr ⟨_, List.getElem_mem hj, pj⟩
    have same : (fun k => S k || decide (k = z)) = S := by
      funext k
      by_cases e : k = z
      · subst e; rw [inS]; rfl
      · rw [decide_eq_false e, Bool.or_false]
    have q := hQ s.heap (Heap.SameBut.refl a s.heap)
    rw [same, inS, if_pos rfl] at q
    exact wpAny_pure (wpAny_pure (q ⟨o, es, ep, t, ho, hex, hd, el, me, hb, hf, hn, hr, hl⟩))
  | none =>
    dsimp only
    have notS : S z = false := by
      rw [Bool.eq_false_iff]
      intro q
      obtain ⟨e, he, h1⟩ := (me z).mp q
      have := List.findIdx?_eq_none_iff.mp hfi e he
      rw [h1] at this
      cases this
    have way : ∀ (b : Bool) {s₁ : Shared} {R : Unit → Shared → Prop}, R () s₁ → wpAny (model P w) A (match b with | true => rule "set.scan.the-table-gave-way" | false => pure ()) R E s₁ := fun b s₁ R q => by
      cases b
      · exact wpAny_pure q
      · exact wpAny_rule q
    have p := layNew_perm t es ((strKind P w).hash z) (.str z tk)
    have f1 := layNew_fits t es ((strKind P w).hash z) (.str z tk)
    have r1 := layNew_ris t es ((strKind P w).hash z) (.str z tk) hr
    have l1 := layNew_led t es ((strKind P w).hash z) (.str z tk)
    generalize layNew t es ((strKind P w).hash z) (.str z tk) = Y at p f1 r1 l1 ⊢
    obtain ⟨es1, t1, was, gave⟩ := Y
    dsimp only at p f1 r1 l1 ⊢
    rw [Array.toList_push] at p
    have el1 : ElemsOf (strKind P w) es1.toList := (el.push isz scan).perm p
    have me1 : ∀ k, (S k || decide (k = z)) = true ↔ ∃ e ∈ es1.toList, (strKind P w).is k e.2 = true := mem_push_iff isz me p
    have many : es1.size = n + 1 := by
      have := p.length_eq
      rw [List.length_append] at this
      simpa [hn] using this
    have hb1 : es1.size < scanBound := by omega
    have led1 : w.params.followText "set-order" = true ∨ t1.led = true := hl.imp id fun q => by rw [l1]; exact q
    have fin : ∀ h', Heap.SameBut a s.heap h' → TxR P w h' a (fun j => S j || decide (j = z)) es1.size → Q true { s with heap := h' } := fun h' b r => by
      have q := hQ h' b
      rw [notS, if_neg Bool.false_ne_true] at q
      rw [many] at r
      exact q r
    refine wpAny_bind (way _ ?_)
    split
    · refine wpAny_bind ?_
      rw [hashByValue_scannable 8 scan]
      refine wpAny_pure ?_
      refine txR_tail ?_ ho hex hd el1 me1 hb1 ?_ ?_ ?_ ?_
      · intro b s₁ R q
        exact way b q
      · split
        · exact f1
        · exact SetTable.fits_plain_off f1
      · split <;> exact r1
      · split <;> exact led1
      · intro h' b r
        dsimp only
        exact wpAny_pure (fin h' b r)
    · refine wpAny_bind (wpAny_pure ?_)
      simp only [↓reduceIte]
      refine txR_tail ?_ ho hex hd el1 me1 hb1 f1 r1 led1 ?_
      · intro b s₁ R q
        exact way b q
      · intro h' b r
        dsimp only
        exact wpAny_pure (fin h' b r)
end
/-- the set at a: who is in is in ns, as many as u has -/
def TxSet (P : Program) (w : World) (h : Heap) (a : Addr) (ns u : List Str) : Prop := TxR P w h a (fun j => decide (j ∈ ns)) u.length
section
variable {P : Program} {w : World} {A : Around} {E : Value → Shared → Prop} {s : Shared}
theorem txSet_new {h : Heap} {a : Addr} {ns : List Str} (ho : h.get? a = some (eset w)) : TxSet P w h a (ns.take 0) [] := txR_new ho
theorem TxSet.keep {h h' : Heap} {a : Addr} {ns u : List Str} (R : TxSet P w h a ns u) (k : ∀ o, h.get? a = some o → h'.get? a = some o) : TxSet P w h' a ns u := TxR.keep R k
theorem set_update_strs {I : Addr} {fp wr : List Addr} {G : Array GenState → Array GenState → Prop} {n : Nat} {Pv : Nat → Value → Prop} {St : Nat → Shared → Prop} {R : Result → Shared → Prop}
    (W : WalksS P w A.in1 I fp wr G n Pv St) (S : Addr) (apart : S ∉ fp) (ns : List Str) (hn : n = ns.length) (hb : ns.length + 1 < scanBound) (vals : ∀ i v, Pv i v → ∃ k t, ns[i]? = some k ∧ v = .str k t) :
    ∀ (m i : Nat) (s : Shared), n - i = m → i ≤ n → St i s → (∃ u, Dist (ns.take i) u ∧ u.length ≤ i ∧ TxSet P w s.heap S (ns.take i) u) →
      (∀ s' u, Moved (S :: wr) G s s' → Dist ns u → TxSet P w s'.heap S ns u → R (.ok (.ret .none)) s') →
      codeAny (model P w) A (.builtin "set.update.loop" ⟨[Value.ref S, Value.ref I], []⟩) R s := by
  have notW : S ∉ wr := fun h => apart (W.sub S h)
  have more : ∀ b ∈ wr, b ∈ S :: wr := fun b hb => List.mem_cons_of_mem S hb
  intro m
  induction m with
  | zero =>
    intro i s hm hi st ⟨u, hd, hu, hS⟩ hR
    obtain rfl : i = n := by omega
    refine codeAny_builtin F.entry_set_update_loop ?_
    rw [Around.under_plainId F.plain_set_update_loop _]
    show wpAny (model P w) A.in1 (pyNext (.ref I) >>= _) _ _ s
    refine wpAny_bind (W.done s _ _ st fun s' hm => ?_)
    show wpAny (model P w) A.in1 (ret Value.none) _ _ s'
    have e : ns.take i = ns := List.take_of_length_le (by omega)
    rw [e] at hS hd
    exact wpAny_pure (hR s' u (hm.mono more) hd (hS.keep fun o e => hm.heap S o notW e))
  | succ m ih =>
    intro i s hm hi st ⟨u, hd, hu, hS⟩ hR
    have hlt : i < n := by omega
    refine codeAny_builtin F.entry_set_update_loop ?_
    rw [Around.under_plainId F.plain_set_update_loop _]
    show wpAny (model P w) A.in1 (pyNext (.ref I) >>= _) _ _ s
    refine wpAny_bind (W.item i s _ _ hlt st fun v s' hP st' hm => ?_)
    obtain ⟨z, t, hz, rfl⟩ := vals i v hP
    have hS' : TxSet P w s'.heap S (ns.take i) u := hS.keep fun o e => hm.heap S o notW e
    show wpAny (model P w) A.in1 (holding [Value.str z t] (setAdd S (.str z t)) >>= _) _ _ s'
    refine wpAny_bind (wpAny_holding ?_)
    unfold setAdd
    refine wpAny_holding ?_
    refine wpAny_bind ((strKind P w).pyHash (k := z) (strKind_is P w z t) ?_)
    refine txR_add (s := { s' with toks := s'.toks + 1 }) hS' (by omega) fun h' hsb hS2 => ?_
    have tk : ns.take (i + 1) = ns.take i ++ [z] := by rw [List.take_add_one, hz]; rfl
    have S3 : ∃ u', Dist (ns.take (i + 1)) u' ∧ u'.length ≤ i + 1 ∧ TxSet P w h' S (ns.take (i + 1)) u' := by
      have ef : (fun k' => decide (k' ∈ ns.take i) || decide (k' = z)) = fun k' => decide (k' ∈ ns.take (i + 1)) := by
        funext k'; rw [tk]; simp
      by_cases hin : z ∈ ns.take i
      · refine ⟨u, ⟨hd.nd, fun k => ?_⟩, by omega, ?_⟩
        · rw [tk, hd.mem k]; simp; intro e; subst e; exact hin
        · rw [if_pos (decide_eq_true hin)] at hS2
          unfold TxSet; rw [← ef]; exact hS2
      · have hzu : z ∉ u := fun q => hin ((hd.mem z).mp q)
        refine ⟨u ++ [z], ⟨?_, fun k => ?_⟩, by simp; omega, ?_⟩
        · rw [List.nodup_append]
          exact ⟨hd.nd, by simp, fun a ha b hb e => by have := List.mem_singleton.mp hb; subst this; subst e; exact hzu ha⟩
        · rw [tk]; simp [hd.mem k]
        · rw [if_neg (by simpa using hin)] at hS2
          unfold TxSet; rw [← ef, List.length_append]; exact hS2
    refine wpAny_pure ⟨plainId_quiet F.plain_set_update_loop _, ih (i + 1) _ (by omega) hlt (W.frame _ s' _ _ st' (Nat.le_succ _) fun b hb o e => ?_) S3 fun s2 u2 hm2 hd2 hS4 => ?_⟩
    · rw [hsb.2 b (fun h : b = S => apart (by rw [← h]; exact hb))]; exact e
    · refine hR s2 u2 (Moved.trans W.gtrans ((hm.mono more).then_heap (Nat.le_succ _) fun b o hb e => ?_) hm2) hd2 hS4
      rw [hsb.2 b (fun h : b = S => hb (by rw [h]; exact List.mem_cons_self))]; exact e

set_option maxHeartbeats 8000000 in
theorem set_of_list {l : Addr} {items : Array Value} (ns : List Str) {Q : Value → Shared → Prop} (hh : A.handled = none) (hl : s.heap.IsList l items) (hit : StrsAre items.toList ns) (hb : ns.length + 1 < scanBound)
    (h : ∀ (h' : Heap) (tk : Nat) (u : List Str), Dist ns u → TxSet P w h' s.heap.objs.size ns u → (∀ b o, s.heap.get? b = some o → h'.get? b = some o) → Q (.ref s.heap.objs.size) { s with heap := h', toks := tk }) :
    wpAny (model P w) A (call (.type "set") [.ref l]) Q E s := by
  have hisz : items.size = ns.length := by
    have q := strsAre_len hit
    rw [Array.length_toList] at q
    exact q
  obtain ⟨cc, tl, hmro⟩ := F.called_set.mro
  have hmadeBy := F.called_set.made
  have hsubOf := F.called_set.sub
  refine wpAny_call (codeAny_of_tree ?tree)
  case tree =>
   show wpAny (model P w) A.in1 (callAny (.type "set") ⟨[.ref l], []⟩) _ _ s
   refine wpAny_pure ⟨Code.quiet_builtin ⟨[Value.type "set", .ref l], []⟩ (by decide +kernel), codeAny_builtin F.entry_type_call ?under⟩
   case under =>
    rw [Around.under_plain (weight_type_call_type "set" [Value.ref l] ([] : List (Str × Value))) rfl]
    have notType := F.called_set.notType
    have canMake := F.called_set.canCreate
    have checked := F.typeCall_set_1 (Value.ref l)
    repeat (any_goals (first | assumption | wp_step))
    refine codeAny_mono (code_set_led1 (Value.ref l) (E := E) (Q₁ := fun obj t => obj = .ref s.heap.objs.size ∧ t = { s with heap := s.heap.push (eset w) }) ⟨rfl, rfl⟩) fun r t hr => ?_
    cases r with
    | error e => exact hr
    | ok fl =>
     cases fl with
     | ret obj =>
      obtain ⟨rfl, rfl⟩ := hr
      have hS : (s.heap.push (eset w)).get? s.heap.objs.size = some (eset w) := Heap.get?_push_size _ rfl
      have hT : Shared.TypeIs { s with heap := s.heap.push (eset w) } (.ref s.heap.objs.size) "set" := ⟨eset w, hS, rfl⟩
      have initLook := F.called_set.init.lookup
      have initBind := F.called_set.init.bind (Value.ref s.heap.objs.size)
      repeat (any_goals (first | assumption | wp_step))
      refine codeAny_mono (codeAny_call_builtin (R := wants (fun r t2 => r = .none ∧ ∃ h' tk u, t2 = { s with heap := h', toks := tk } ∧ Dist ns u ∧ TxSet P w h' s.heap.objs.size ns u ∧
          (∀ b o, s.heap.get? b = some o → h'.get? b = some o)) E) F.called_set.init.plain F.entry_set_init (check_set_init_1 hT ?_)) fun r2 t2 hr2 => ?_
      · obtain ⟨ol, hol, hcl, nl, hdl⟩ := hl
        obtain ⟨ocls, odict, odata, oslots⟩ := ol
        simp only at hcl hdl
        subst hcl; subst hdl
        have hol2 : (s.heap.push (eset w)).get? l = some { cls := .type "list", dict := odict, data := .seq items nl, slots := oslots } := Heap.get?_push_of_some (eset w) hol
        have noSet := F.sub_list_set
        have noFrozen := F.sub_list_frozenset
        have noDict : (Value.type "list" == Value.type "dict") = false := by decide
        have hl1 : (s.heap.push (eset w)).IsList l items := ⟨_, hol2, rfl, nl, rfl⟩
        unfold Builtin.«set.__init__» noKeywords Builtin.Frozenset.updateFrom
        generalize hPI : pyIter = walked
        wp_walk
        subst hPI
        refine wpAny_pyIter_list hl1 (wpAny_bind (wpAny_runValue ?_))
        have hlS : l < s.heap.objs.size := Heap.lt_size hol
        have calm3 : A.in1.in1.in1.handled = none := by simp [hh]
        have hz1 : (s.heap.push (eset w)).objs.size = s.heap.objs.size + 1 := Heap.size_push ..
        have apartI : l ≠ (s.heap.push (eset w)).objs.size := by rw [hz1]; exact Nat.ne_of_lt (Nat.lt_succ_of_lt hlS)
        have apartS : s.heap.objs.size ∉ [(s.heap.push (eset w)).objs.size, l] := by
          rw [hz1]; intro z
          rcases List.mem_cons.mp z with z | z
          · exact absurd z (Nat.ne_of_lt (Nat.lt_succ_self _))
          · exact absurd (List.mem_singleton.mp z) (Nat.ne_of_gt hlS)
        have vals : ∀ (i : Nat) (v : Value), items[i]? = some v → ∃ k t, ns[i]? = some k ∧ v = .str k t := fun i v hv => strsAre_at hit i v (by rw [Array.getElem?_toList]; exact hv)
        refine set_update_strs ((Walks.list calm3 _ l apartI items).toS) s.heap.objs.size
          apartS ns hisz hb vals (items.size - 0) 0 _ (by omega) (Nat.zero_le _)
          ⟨⟨_, Heap.get?_push_size _ rfl, rfl, rfl⟩, (hl1.push _)⟩ ⟨[], Dist.nil, Nat.le_refl _, txSet_new (Heap.get?_push_of_some _ hS)⟩ ?done
        case done =>
          intro s' u hm hd hS'
          obtain ⟨h', g2, d', tk', os'⟩ := s'
          have eg : g2 = s.gens := hm.gens
          have ed : d' = s.drawn := hm.drawn
          have eo : os' = s.os := hm.os
          subst eg; subst ed; subst eo
          show wpAny _ _ _ _ _ _
          refine wpAny_pure ?_
          show wpAny _ _ (ret Value.none) _ _ _
          refine wpAny_pure ⟨rfl, h', tk', u, rfl, hd, hS', fun b o e => ?_⟩
          have b0 : b < s.heap.objs.size := Heap.lt_size e
          refine hm.heap b o (fun z => ?_) (Heap.get?_push_of_some _ (Heap.get?_push_of_some _ e))
          rcases List.mem_cons.mp z with z | z
          · exact absurd z (Nat.ne_of_lt b0)
          · have z := List.mem_singleton.mp z
            rw [hz1] at z
            exact absurd z (Nat.ne_of_lt (Nat.lt_succ_of_lt b0))
      · cases r2 with
        | error e => exact hr2
        | ok fl2 =>
          cases fl2 with
          | ret r =>
            obtain ⟨rfl, h', tk, u, rfl, hd, hS', hk'⟩ := hr2
            repeat (any_goals (first | assumption | wp_step))
            exact h h' tk u hd hS' hk'
          | next => exact hr2.elim
          | brk => exact hr2.elim
          | cont => exact hr2.elim
     | next => exact hr.elim
     | brk => exact hr.elim
     | cont => exact hr.elim
end
def tLenSetS (K : PySem.W.Frag) (ta : TE) : TE := fun σ H Q => ta σ H fun x H1 => ∃ (l : Addr) (ns : List Str), x = .ref l ∧ SqL K H1 l (ns.map V.str) ∧ ns.length ≤ 4000 ∧ ∀ u, Dist ns u → Q (.int (u.length : Nat)) H1
theorem pe_lenSetS {X : Cx} {a : Expr} {ta : TE} {p p2 q pos : Pos} (hg : Gl X "len") (hm : X.mg "len" = none) (hg2 : Gl X "set") (hm2 : X.mg "set" = none) (ha : PE X a ta) (hc : X.calm = true := by rfl)
    (na : starEach [a] X.env = (false, eval a X.env) :: starEach [] X.env := by rfl) : PE X (.Call (.Name "len" p) [.Call (.Name "set" p2) [a] [] q] [] pos) (tLenSetS X.K ta) := by
  refine ⟨fun pins s σ H Q I h => Call_ (ld_blt I hg hm boot_len ?_)⟩
  refine PyProof.Rows.callWith_builtin1 (PyProof.Rows.args_cons ?_ rfl) rfl rfl
  refine Call_ (ld_blt I hg2 hm2 boot_set (PyProof.Rows.callWith_type1 (PyProof.Rows.args_cons ?_ na) na rfl))
  refine thn (ha.run pins s σ H _ I h) fun v s1 ⟨x, H1, I1, r1, q1⟩ => PyProof.Rows.args_nil ?_
  obtain ⟨l, ns, rfl, hq, hl, q1⟩ := q1
  cases r1
  have fin : ∀ (h' : Heap) (tk : Nat) (u : List Str), Dist ns u → TxSet X.prog X.w h' s1.heap.objs.size ns u → (∀ b o, s1.heap.get? b = some o → h'.get? b = some o) →
      wpAny (model X.prog X.w) X.A (spliced (backTo pos (starEach [] X.env))) (fun vs s₂ => wpAny (model X.prog X.w) X.A (call (.builtin "len") (Value.ref s1.heap.objs.size :: vs)) (EP X pins σ Q) X.xe s₂) X.xe { s1 with heap := h', toks := tk } := fun h' tk u hd hS hk => by
    refine PyProof.Rows.args_nil ?_
    obtain ⟨o, es, ep, t, ho, hex, hda, _, _, hb, hf, hn, _, _⟩ := hS
    have I2 : Inv X pins σ H1 { s1 with heap := h', toks := tk } := I1.kept fun b o e => hk b o e
    exact call_len_set ho hex hda hf (by unfold scanBound at hb; omega) ⟨.int u.length, H1, I2.tok _, ⟨_, by rw [hn]⟩, q1 u hd⟩
  obtain ⟨its, r, pl, hz⟩ := I1.list hq
  exact set_of_list ns (I1.ok.hd hc) pl.isList (by simpa using strsAre_of r) (by unfold scanBound; omega) fun h' tk u hd hS hk => fin h' tk u hd hS hk
/-- len(set(e)), e a list of texts -/
def drLenSet (x : SD) (μ : Mu) (Q : SD → Mu → Prop) : Prop := match lstD μ x with
  | some xs => match strsOf xs with
    | some ns => ns.length ≤ 4000 ∧ ∀ u, Dist ns u → Q (.int (u.length : Nat)) μ
    | none => False
  | none => False
abbrev dLenSet (te : DTE) : DTE := fun ρ μ Q => te ρ μ fun x μ1 => drLenSet x μ1 Q
theorem de_lenSet {X : Cx} {a : Expr} {ta : DTE} {p p2 q pos : Pos} (hg : Gl X "len") (hm : X.mg "len" = none) (hg2 : Gl X "set") (hm2 : X.mg "set" = none) (ha : DE X a ta) (hc : X.calm = true := by rfl)
    (na : starEach [a] X.env = (false, eval a X.env) :: starEach [] X.env := by rfl) : DE X (.Call (.Name "len" p) [.Call (.Name "set" p2) [a] [] q] [] pos) (dLenSet ta) := weakE (pe_lenSetS hg hm hg2 hm2 ha hc na) fun σ H Q h => by
  obtain ⟨F, ρ, μ, Q', R, S, t, k⟩ := h
  refine ⟨F, ρ, μ, _, R, S, t, fun d μ1 t1 F1 H1 v s1 R1 r1 => ?_⟩
  unfold drLenSet at t1
  cases e : lstD μ1 d with
  | none => rw [e] at t1; exact t1.elim
  | some xs =>
    rw [e] at t1
    simp only at t1
    cases e2 : strsOf xs with
    | none => rw [e2] at t1; exact t1.elim
    | some ns =>
      rw [e2] at t1
      simp only at t1
      obtain ⟨a, vs, h1, h3, h2⟩ := R1.lst r1 e
      obtain rfl := strsOf_rep h2 e2
      exact ⟨a, ns, h1, SqL.of h3, t1.1, fun u hd => k _ _ (t1.2 u hd) F1 H1 _ s1 R1 (.int _)⟩
end DS
namespace DS
open PySem PySem.Spec PyProof.Rows L2
section
variable {X : Cx} {K : PySem.W.Frag}
/-- str(x) of an int or a truth value -/
def drStr : DRc := fun ds μ Q => match ds with
  | [.int i] => i.natAbs.log2 < 1920 ∧ Q (.str (toString i)) μ
  | [.bl b] => Q (.str (if b then "True" else "False")) μ
  | _ => False
theorem call_str_bl : CallR X (.type "str") (fun xs H Q => ∃ b, xs = [.bl b] ∧ Q (.str (if b then "True" else "False")) H) := by
  intro pins s σ H xs us Q I r h
  obtain ⟨b, rfl, q⟩ := h
  obtain ⟨u, rfl, r1⟩ := vals1 r
  cases r1
  exact PySem.P.str_of_bool ⟨.str _, H, I.tok _, ⟨_, rfl⟩, q⟩
def rStrOf : List V → Hp → VK → Prop := fun xs H Q => (∃ i, xs = [.int i] ∧ i.natAbs.log2 < 1920 ∧ Q (.str (toString i)) H) ∨ ∃ b, xs = [.bl b] ∧ Q (.str (if b then "True" else "False")) H
theorem cr_strOf : CallR X (.type "str") rStrOf := call_str_int.or call_str_bl
theorem lc_strOf : LRc K drStr rStrOf := fun F H μ xs ds Q' Q R r t k => by
  unfold drStr at t
  split at t
  · cases r with
    | cons r1 r2 => cases r2; cases r1; exact .inl ⟨_, rfl, t.1, k _ μ t.2 F H _ (Stp.refl _ _ _) R (.str _)⟩
  · cases r with
    | cons r1 r2 => cases r2; cases r1; exact .inr ⟨_, rfl, k _ μ t F H _ (Stp.refl _ _ _) R (.str _)⟩
  · exact False.elim t
theorem lift_chain {r r' : R2} {dr dr' : DR2} {ta tb tc : DTE} (hl : LR2 K dr r) (hl' : LR2 K dr' r') : ∀ σ H Q, LE K (dChain dr dr' ta tb tc) σ H Q → tChain r r' (LE K ta) (LE K tb) (LE K tc) σ H Q := fun σ H Q h => by
  obtain ⟨F, ρ, μ, Q', R, S, t, k⟩ := h
  refine ⟨F, ρ, μ, _, R, S, t, fun d1 μ1 t1 F1 H1 v1 s1 R1 r1 => ?_⟩
  refine ⟨F1, ρ, μ1, _, R1, S.mono s1.ext, t1, fun d2 μ2 t2 F2 H2 v2 s2 R2 r2 => ?_⟩
  refine hl F2 H2 μ2 v1 v2 d1 d2 _ _ R2 (r1.mono s2.ext) r2 t2 fun d3 μ3 t3 F3 H3 v3 s3 R3 r3 => ?_
  cases r3 with
  | bl z =>
    refine ⟨z, rfl, ?_⟩
    cases z with
    | true =>
      refine ⟨F3, ρ, μ3, _, R3, S.mono ((s1.trans s2).trans s3).ext, t3, fun d4 μ4 t4 F4 H4 v4 s4 R4 r4 => ?_⟩
      exact hl' F4 H4 μ4 v2 v4 d2 d4 Q' Q R4 (r2.mono (s3.trans s4).ext) r4 t4 fun d μ' q F' H' v s R' r' => k d μ' q F' H' v ((((s1.trans s2).trans s3).trans s4).trans s) R' r'
    | false => exact k _ μ3 t3 F3 H3 _ ((s1.trans s2).trans s3) R3 (.bl false)
  | _ => exact t3.elim
theorem dt_chain {op op' : CmpOp} {r r' : R2} {dr dr' : DR2} {ta tb tc : DTE} {a b c : Expr} {pos : Pos} (ho : OpR X (compareOp op) r) (hl : LR2 X.K dr r) (ho' : OpR X (compareOp op') r') (hl' : LR2 X.K dr' r') (ha : DE X a ta) (hb : DE X b tb) (hc : DE X c tc) (hm : lastMarks [op, op'] [b, c] = false := by rfl) :
    DT X (.Compare a [op, op'] [b, c] pos) (dTest (dChain dr dr' ta tb tc)) := weakT (pt_chain ho ho' ha hb hc hm) fun σ H Q h => by
  obtain ⟨F, ρ, μ, Q', R, S, t, k⟩ := h
  refine lift_chain hl hl' σ H _ ⟨F, ρ, μ, _, R, S, t, fun d μ' q F' H' v s R' r' => ?_⟩
  cases r' with
  | bl b => exact ⟨b, rfl, k b μ' q F' H' s R'⟩
  | _ => exact q.elim
end
end DS
namespace DS
open PySem PySem.Spec PyProof.Rows L2
mutual
/-- the value shows as the datum; empty dicts among it stand at no place of the machine's own -/
inductive Shw (h : Heap) : Value → PyData → Prop
  | non : Shw h .none .none
  | bl (b : Bool) : Shw h (.bool b) (.bool b)
  | int (i : Int) (t : Tok) : Shw h (.int i t) (.int i)
  | str (x : Str) (t : Tok) : Shw h (.str x t) (.str x)
  | lst {a : Addr} {o : Obj} {vs : Array Value} {n : Nat} {xs : List PyData} : h.get? a = some o → o.cls = .type "list" → o.data = .seq vs n → ShwL h vs.toList xs → Shw h (.ref a) (.list xs)
  | tup {a : Addr} {o : Obj} {vs : Array Value} {n : Nat} {xs : List PyData} : h.get? a = some o → o.cls = .type "tuple" → o.data = .seq vs n → ShwL h vs.toList xs → Shw h (.ref a) (.tuple xs)
  | dic {a : Addr} {o : Obj} {n : Nat} : (a == sysModules) = false → h.get? a = some o → o.cls = .type "dict" → o.data = .dict #[] n → Shw h (.ref a) (.dict [])
inductive ShwL (h : Heap) : List Value → List PyData → Prop
  | nil : ShwL h [] []
  | cons {v : Value} {vs : List Value} {d : PyData} {ds : List PyData} : Shw h v d → ShwL h vs ds → ShwL h (v :: vs) (d :: ds)
end
mutual
theorem Shw.reads {h : Heap} : ∀ {v : Value} {d : PyData}, Shw h v d → ∃ as, Reads h v d as
  | _, _, .non => ⟨_, .none⟩
  | _, _, .bl b => ⟨_, .bool b⟩
  | _, _, .int i t => ⟨_, .int i t⟩
  | _, _, .str x t => ⟨_, .str x t⟩
  | _, _, .lst a b c r => let ⟨_, q⟩ := ShwL.reads r; ⟨_, .list a b c q⟩
  | _, _, .tup a b c r => let ⟨_, q⟩ := ShwL.reads r; ⟨_, .tuple a b c q⟩
  | _, _, .dic _ a b c => ⟨_, .dict (kvs := []) a b c .nil .nil⟩
theorem ShwL.reads {h : Heap} : ∀ {vs : List Value} {ds : List PyData}, ShwL h vs ds → ∃ as, ReadsAll h vs ds as
  | _, _, .nil => ⟨_, .nil⟩
  | _, _, .cons h r => let ⟨_, p⟩ := Shw.reads h; let ⟨_, q⟩ := ShwL.reads r; ⟨_, .cons p q⟩
end
section
variable {prog : Program} {w : World} {h₀ : Heap}
theorem dict0_shown : (PyData.dict []).shown = dictText [] := by simp only [PyData.shown, PyData.shownKv]
mutual
theorem Shw.K : ∀ {v : Value} {d : PyData}, Shw h₀ v d → d.showable = true → d.shown.length ≤ sizeLine → ∃ bs, ReadAtMost h₀ d.depth bs ∧ ReprK prog w bs h₀ d.depth v d.shown
  | _, _, .non, hs, hz => ReprK.of_reads Reads.none hs (fun z => by simp [PyData.hasDict] at z) hz
  | _, _, .bl b, hs, hz => ReprK.of_reads (Reads.bool b) hs (fun z => by simp [PyData.hasDict] at z) hz
  | _, _, .int i t, hs, hz => ReprK.of_reads (Reads.int i t) hs (fun z => by simp [PyData.hasDict] at z) hz
  | _, _, .str x t, hs, hz => ReprK.of_reads (Reads.str x t) hs (fun z => by simp [PyData.hasDict] at z) hz
  | _, _, .lst (a := a) (vs := vs) (xs := xs) h1 h2 h3 h4, hs, hz => by
    have fits : (listText (PyData.shownAll xs)).length ≤ sizeLine := by simpa only [PyData.shown] using hz
    obtain ⟨bs, hb, hk⟩ := ShwL.K h4 (by simpa [PyData.showable] using hs) fun t ht => Nat.le_trans (listText_mem_le ht) fits
    obtain ⟨as, q⟩ := ShwL.reads h4
    have r : Reads h₀ (.ref a) (.list xs) (a :: as) := .list h1 h2 h3 q
    have apart : a ∉ bs := not_mem_of_deeper r (by simp only [PyData.depth]; omega) hb
    refine ⟨a :: bs, ReadAtMost.cons r (by simp only [PyData.depth]; omega) hb, ?_⟩
    simp only [PyData.depth, PyData.shown]
    obtain ⟨l⟩ := vs
    cases l with
    | nil =>
      have e : ShwL h₀ [] xs := h4
      cases e
      simp only [PyData.shownAll, listText_nil]
      exact ReprK.listEmpty h1 h2 h3
    | cons x l => exact ReprK.list h1 h2 h3 apart (by simpa using hk.length_eq) fun i y e => hk.item i y (by simpa using e)
  | _, _, .tup (a := a) (xs := xs) h1 h2 h3 h4, hs, hz => by
    have fits : (tupleText (PyData.shownAll xs)).length ≤ sizeLine := by simpa only [PyData.shown] using hz
    obtain ⟨bs, hb, hk⟩ := ShwL.K h4 (by simpa [PyData.showable] using hs) fun t ht => Nat.le_trans (tupleText_mem_le ht) fits
    obtain ⟨as, q⟩ := ShwL.reads h4
    have r : Reads h₀ (.ref a) (.tuple xs) as := .tuple h1 h2 h3 q
    have apart : a ∉ bs := not_mem_of_deeper r (by simp only [PyData.depth]; omega) hb
    refine ⟨a :: bs, ReadAtMost.cons r (by simp only [PyData.depth]; omega) hb, ?_⟩
    simp only [PyData.depth, PyData.shown]
    exact ReprK.tuple h1 h2 h3 apart hk
  | _, _, .dic (a := a) h0 h1 h2 h3, hs, hz => by
    have r : Reads h₀ (.ref a) (.dict []) _ := .dict (kvs := []) h1 h2 h3 .nil .nil
    refine ⟨[a], fun b hb => ⟨_, _, List.mem_singleton.mp hb ▸ r, Nat.le_refl _⟩, ?_⟩
    rw [dict0_shown]
    exact ReprK.dict h1 h2 h3 h0 (List.not_mem_nil) .nil
theorem ShwL.K : ∀ {vs : List Value} {ds : List PyData}, ShwL h₀ vs ds → PyData.showableAll ds = true → (∀ t ∈ PyData.shownAll ds, t.length ≤ sizeLine) →
    ∃ bs, ReadAtMost h₀ (PyData.depthAll ds) bs ∧ ReprAllK prog w bs h₀ (PyData.depthAll ds) vs (PyData.shownAll ds)
  | _, _, .nil, _, _ => ⟨[], (fun _ h => nomatch h), by simp only [PyData.shownAll]; exact .nil⟩
  | _, _, .cons (d := d) (ds := ds) r rs, hs, hz => by
    have both : d.showable = true ∧ PyData.showableAll ds = true := by simpa [PyData.showableAll] using hs
    obtain ⟨b1, hb1, k1⟩ := Shw.K r both.1 (hz _ (by simp only [PyData.shownAll]; exact List.mem_cons_self ..))
    obtain ⟨b2, hb2, k2⟩ := ShwL.K rs both.2 fun t ht => hz t (by simp only [PyData.shownAll]; exact List.mem_cons_of_mem _ ht)
    refine ⟨b1 ++ b2, ?_, ?_⟩
    · simp only [PyData.depthAll]
      exact (hb1.mono (Nat.le_max_left _ _)).append (hb2.mono (Nat.le_max_right _ _))
    · simp only [PyData.depthAll, PyData.shownAll]
      exact .cons ((k1.more fun b hb => List.mem_append_left b2 hb).level_le (Nat.le_max_left _ _)) (k2.more_le (fun b hb => List.mem_append_right b1 hb) (Nat.le_max_right _ _))
end
theorem Shw.by {a : Addr} {d : PyData} (r : Shw h₀ (.ref a) d) (hs : d.showable = true) (hz : d.shown.length ≤ sizeLine) : ∃ T idr, ShowsBy prog w h₀ a d T idr := by
  cases r with
  | lst h1 h2 h3 h4 =>
    rename_i o vs n xs
    have fits : (listText (PyData.shownAll xs)).length ≤ sizeLine := by simpa only [PyData.shown] using hz
    obtain ⟨bs, hb, hk⟩ := ShwL.K (prog := prog) (w := w) h4 (by simpa [PyData.showable] using hs) fun t ht => Nat.le_trans (listText_mem_le ht) fits
    obtain ⟨as, q⟩ := ShwL.reads h4
    have apart : a ∉ bs := not_mem_of_deeper (.list h1 h2 h3 q) (by simp only [PyData.depth]; omega) hb
    refine ⟨"list", "list.__repr__", F.slot_list_repr.toG, F.slot_list_str, F.slot_list_format, fun s keep => ⟨o, keep _ _ h1, h2⟩, fun A E s Q hg hu keep hQ => ?_⟩
    simp only [PyData.depth] at hu
    simp only [PyData.shown] at hQ
    obtain ⟨l⟩ := vs
    cases l with
    | nil =>
      have e : ShwL h₀ [] xs := h4
      cases e
      simp only [PyData.shownAll, listText_nil] at hQ
      exact call_list_repr_empty ⟨o, keep _ _ h1, h2⟩ (keep _ _ h1) h3 (hQ s.heap _ _ fun _ _ e => e)
    | cons x l => exact call_list_reprK h1 h2 h3 apart (by simpa using hk.length_eq) (fun i y e => hk.item i y (by simpa using e)) hg (fun b _ => Clear.nil b) hu keep hQ fits
  | tup h1 h2 h3 h4 =>
    rename_i o vs n xs
    have fits : (tupleText (PyData.shownAll xs)).length ≤ sizeLine := by simpa only [PyData.shown] using hz
    obtain ⟨bs, hb, hk⟩ := ShwL.K (prog := prog) (w := w) h4 (by simpa [PyData.showable] using hs) fun t ht => Nat.le_trans (tupleText_mem_le ht) fits
    obtain ⟨as, q⟩ := ShwL.reads h4
    have apart : a ∉ bs := not_mem_of_deeper (.tuple h1 h2 h3 q) (by simp only [PyData.depth]; omega) hb
    refine ⟨"tuple", "tuple.__repr__", F.slot_tuple_repr, F.slot_tuple_str, F.slot_tuple_format, fun s keep => ⟨o, keep _ _ h1, h2⟩, fun A E s Q hg hu keep hQ => ?_⟩
    simp only [PyData.depth] at hu
    simp only [PyData.shown] at hQ
    exact call_tuple_reprK h1 h2 h3 apart hk hg (fun b _ => Clear.nil b) hu keep hQ fits
  | dic h0 h1 h2 h3 =>
    rename_i o n
    refine ⟨"dict", "dict.__repr__", F.slot_dict_repr, F.slot_dict_str, F.slot_dict_format, fun s keep => ⟨o, keep _ _ h1, h2⟩, fun A E s Q hg hu keep hQ => ?_⟩
    rw [dict0_shown] at hQ hz
    simp only [PyData.depth] at hu
    exact call_dict_reprK h1 h2 h3 h0 (List.not_mem_nil) .nil hg (fun b _ => Clear.nil b) hu keep hQ hz
end
mutual
inductive Dq (K : PySem.W.Frag) (H : Hp) : V → PyData → Prop
  | non : Dq K H .non .none
  | bl (b : Bool) : Dq K H (.bl b) (.bool b)
  | int (i : Int) : Dq K H (.int i) (.int i)
  | str (x : Str) : Dq K H (.str x) (.str x)
  | lst {a : Addr} {xs : List V} {ds : List PyData} : SqL K H a xs → DqL K H xs ds → Dq K H (.ref a) (.list ds)
  | tup {a : Addr} {xs : List V} {ds : List PyData} : SqT K H a xs → DqL K H xs ds → Dq K H (.ref a) (.tuple ds)
  | dic {a : Addr} : Rd H a (.dK []) → Dq K H (.ref a) (.dict [])
inductive DqL (K : PySem.W.Frag) (H : Hp) : List V → List PyData → Prop
  | nil : DqL K H [] []
  | cons {v : V} {vs : List V} {d : PyData} {ds : List PyData} : Dq K H v d → DqL K H vs ds → DqL K H (v :: vs) (d :: ds)
end
section
variable {X : Cx} {K : PySem.W.Frag} {pins : List (Addr × Obj)} {σ : L2.St} {H : Hp} {s : Shared}
mutual
theorem Dq.shw (I : Inv X pins σ H s) : ∀ {v : V} {d : PyData} {u : Value}, Dq X.K H v d → RelV v u → Shw s.heap u d
  | _, _, u, .non, r => by cases r; exact .non
  | _, _, u, .bl b, r => by cases r; exact .bl b
  | _, _, u, .int i, r => by obtain ⟨t, rfl⟩ := r; exact .int i t
  | _, _, u, .str x, r => by obtain ⟨t, rfl⟩ := r; exact .str x t
  | _, _, u, .lst hs ha, r => by
    cases r
    obtain ⟨its, rv, ⟨o, n, ho, hc, _, hd⟩, _⟩ := I.list hs
    exact .lst ho hc hd (DqL.shw I ha rv)
  | _, _, u, .tup hs ha, r => by
    cases r
    obtain ⟨its, rv, ⟨o, ho, hc, n, hd⟩, _⟩ := I.tuple hs
    exact .tup ho hc hd (DqL.shw I ha rv)
  | _, _, u, .dic e, r => by
    cases r
    obtain ⟨_, h0, vs, rel, o, es, ep, ho, hex, hd, _, hp, _⟩ := dk_rd I.hok e
    cases rel
    have e0 : es.toList = [] := by
      generalize es.toList = l at hp
      cases hp; rfl
    have : es = #[] := by
      cases es
      simp at e0; subst e0; rfl
    subst this
    exact .dic h0 ho hex.1 hd
theorem DqL.shw (I : Inv X pins σ H s) : ∀ {vs : List V} {ds : List PyData} {us : List Value}, DqL X.K H vs ds → Vals vs us → ShwL s.heap us ds
  | _, _, _, .nil, .nil => .nil
  | _, _, _, .cons h r, .cons q t => .cons (Dq.shw I h q) (DqL.shw I r t)
end
end
end DS
namespace DS
open PySem PySem.Spec PyProof.Rows L2
section
variable {X : Cx} {K : PySem.W.Frag}
def rL0 (K : PySem.W.Frag) (neg : Bool) : R2 := fun x y H Q => ∃ a b xs, x = .ref a ∧ y = .ref b ∧ SqL K H a xs ∧ SqL K H b [] ∧ Q (.bl (neg != xs.isEmpty)) H
theorem opr_neL0 (hu : X.A.units + 64 < cLine) : OpR X (compareOp .NotEq) (rL0 X.K true) := by
  intro pins s σ H x y v u Q I rx ry h
  obtain ⟨a, b, xs, rfl, rfl, ha, hb, q⟩ := h
  cases rx; cases ry
  obtain ⟨its, r, ht, _⟩ := I.list ha
  obtain ⟨its2, r2, ht2, _⟩ := I.list hb
  cases r2
  have l1 : s.heap.IsList a its.toArray := ht.isList
  have l2 : s.heap.IsList b #[] := ht2.isList
  cases r with
  | nil => exact SeqAt.RcNeAt.lists (e := fun _ => true) l1 l2 rfl (by omega) (fun j _ h2 => absurd h2 (Nat.not_lt_zero _)) X.prog X.w X.xe _ ⟨.bl _, H, I, rfl, q⟩
  | cons _ _ => exact SeqAt.RcNeAt.lists_lengths l1 l2 (by simp) (by omega) X.prog X.w X.xe _ ⟨.bl _, H, I, rfl, q⟩
def dL0 (neg : Bool) : DR2 := fun x y μ Q => match lstD μ x, lstD μ y with
  | some xs, some [] => Q (.bl (neg != xs.isEmpty)) μ
  | _, _ => False
theorem lr_L0 {neg : Bool} : LR2 K (dL0 neg) (rL0 K neg) := fun F H μ x y dx dy Q' Q R rx ry t k => by
  unfold dL0 at t
  cases e1 : lstD μ dx with
  | none => rw [e1] at t; exact False.elim t
  | some xs => cases e2 : lstD μ dy with
    | none => rw [e1, e2] at t; exact False.elim t
    | some ys => cases ys with
      | cons _ _ => rw [e1, e2] at t; exact False.elim t
      | nil =>
        rw [e1, e2] at t
        obtain ⟨a, vs, rfl, ha, r1⟩ := R.lst rx e1
        obtain ⟨b, ws, rfl, hb, r2⟩ := R.lst ry e2
        cases r2
        refine ⟨a, b, vs, rfl, rfl, SqL.of ha, SqL.of hb, ?_⟩
        have : xs.isEmpty = vs.isEmpty := by cases r1 <;> rfl
        exact k _ μ t F H _ (Stp.refl _ _ _) R (by rw [this]; exact .bl _)
end
end DS
namespace PySem.DSX
end PySem.DSX
namespace DS
open PySem PySem.Spec PyProof.Rows L2
/-- an own __init__ of an error's class: B.__init__(self, y); self.f = y -/
def spI (C : Addr) (f : Str) : Sp := fun vs H Q _ => ∃ (a : Addr) (y : V), vs = [.ref a, y] ∧ H a = some (exo a C none) ∧ ∀ dx, H dx = none → dx ≠ a → Q .non (upd (upd H dx (exd dx [(f, y)])) a (exo a C (some dx)))
/-- all that is known of an error's class with an __init__ of its own -/
structure XDef (K : PySem.W.Frag) (mg : Str → Option Value) (x f p qual : Str) (st : Stmt) where
  C : Addr
  fI : Addr
  fd : FuncData
  F : Fun K "__init__" qual st fI fd
  m : mg x = some (.ref C)
  o : OexC K C
  ini : PySem.W.findIn K (.ref C) "__init__" = some (some (.ref fI))
  fn : PySem.W.typeIn K (.ref fI) = some (.type "function")
  b : Binds K fd ["self", p] []
  kb : KBinds K fd ["self", p] [p] (kwG [.inl 0, .inr 0] 1 1) (kwG [.inl 0, .inr 0] 1 1)
  xk : XcK K x C [f]
abbrev XIni (P : Program) (w : World) (base : Heap) {K : PySem.W.Frag} {mg : Str → Option Value} {x f p qual : Str} {st : Stmt} (D : XDef K mg x f p qual st) (k : Nat) : Prop := FnG P w K mg base CX0 k D.fI D.fd ["self", p] (spI D.C f)
/-- what is known of the class whose __init__ is asked -/
structure XBase (K : PySem.W.Frag) (mg : Str → Option Value) (x : Str) where
  C : Addr
  m : mg x = some (.ref C)
  sp : PySem.W.specialIn K (.ref C) "__getattribute__" = some (some (.builtin "type.__getattribute__"))
  rd : PySem.W.readsIn K C (.type "type") = true
  at_ : PySem.W.findCls K (.ref C) (.type "type") "__init__" = some (.val (.builtin "ValueError.__init__"))
section
variable {X : Cx} {x f q qual B : Str} {st : Stmt} {k n : Nat} {e : Expr} {es : List Expr} {te : TE} {t : TA} {p p1 p2 p3 p4 p5 p6 p7 p8 p9 p10 pos kpos : Pos}
/-- B.__init__(e, ..), B an own class of errors -/
theorem pe_bini (D : XBase X.K X.mg B) (hg : Gl X B) (ha : PA X (e :: es) t) (hdb : (B == ("__debug__" : Str)) = false) {pl : Sem Bool}
    (hc : eval (.Call (.Attribute (.Name B p1) "__init__" p2) (e :: es) [] pos) X.env = (do
      let ov ← eval (.Name B p1) X.env
      standAt p2.atName
      let (f, first) ← holding [ov] (getMethod ov "__init__" pl)
      callWith pos f first (backTo pos (starEach (e :: es) X.env)) (backToKw pos (keywordEach [] X.env))))
    (he : starEach (e :: es) X.env = (false, eval e X.env) :: starEach es X.env := by rfl) (hpl : (backTo pos (starEach es X.env)).any (·.1) = false := by rfl) :
    PE X (.Call (.Attribute (.Name B p1) "__init__" p2) (e :: es) [] pos) (tVeI X.K t) := by
  refine ⟨fun pins s σ H Q I h => ?_⟩
  refine PySem.W.methodCall_KW (ld_glob I hg D.m ?_ hdb) hc
  refine PySem.W.method_cls I.kIn D.sp (PySem.W.cls_value I.kIn D.rd D.at_ (by decide +kernel) ?_)
  show wpAny _ _ (callWith pos (Value.builtin "ValueError.__init__") [] (backTo pos (starEach (e :: es) X.env)) []) _ _ _
  refine PyProof.Rows.callWith_method1 (thn (ha.run pos pins _ σ H _ (I.tok _) h) fun us s1 ⟨vs, H1, I1, r1, a, C, ws, ev, hl, T, ea, q⟩ => ?_) he hpl
  subst ev
  match us, r1 with
  | _ :: us, .cons r0 r1 =>
    cases r0
    exact oinit_ok T I1 ea (by rw [← r1.length, sizeLine_eq]; omega) fun s' J => ⟨.non, H1, J, rfl, q⟩
/-- self.f = y behind it: the whole __init__ -/
theorem xini_ok {P : Program} {w : World} {K : PySem.W.Frag} {mg : Str → Option Value} {base : Heap} (D : XDef K mg x f q qual st) (Z : XBase K mg B) (S : FnScope ["self", q] ["self", q] (defScope st))
    (hb : defBody st = [.Expr (.Call (.Attribute (.Name B p1) "__init__" p2) [.Name "self" p3, .Name q p4] [] p5) p6, .Assign [.Attribute (.Name "self" p7) f p8] (.Name q p9) p10])
    (hg : (defScope st).names.lookup B = some .globalImplicit) (v0 : Vis (defScope st) "self") (v1 : Vis (defScope st) q) (hdb : (B == ("__debug__" : Str)) = false) (hq1 : (q == ("__debug__" : Str)) = false) (hq2 : (q == ("__classdict__" : Str)) = false)
    (hc : ∀ (L : Addr) (cdv : Value), ∃ pl : Sem Bool, eval (.Call (.Attribute (.Name B p1) "__init__" p2) [.Name "self" p3, .Name q p4] [] p5) (envOfC qual (defScope st) L D.fI cdv) = (do
      let ov ← eval (.Name B p1) (envOfC qual (defScope st) L D.fI cdv)
      standAt p2.atName
      let (f, first) ← holding [ov] (getMethod ov "__init__" pl)
      callWith p5 f first (backTo p5 (starEach [.Name "self" p3, .Name q p4] (envOfC qual (defScope st) L D.fI cdv))) (backToKw p5 (keywordEach [] (envOfC qual (defScope st) L D.fI cdv))))) : XIni P w base D 2 := by
  obtain ⟨oc, od, kV, doc, pm, an, cdv, ct, osl, e, lk, hcd⟩ := D.F.ex
  unfold XIni
  rw [e] at lk ⊢
  refine fnG_of lk hcd S (fun vs H Q E h => by obtain ⟨_, _, rfl, _⟩ := h; rfl) fun A outer s H vs Q E quiet room want => ?_
  obtain ⟨a, y, rfl, ea, k⟩ := want
  obtain ⟨pl, hpl⟩ := hc s.heap.objs.size cdv
  refine ⟨_, by
    rw [hb]
    exact pss_cons (ps_expr (pe_bini (t := tCons (tVar 0) (tCons (tVar 1) tNil)) Z hg (pa_cons (pe_var (i := 0) rfl v0) (pa_cons (pe_var (i := 1) rfl v1 hq1 hq2) pa_nil)) hdb hpl)) (pss_one (ps_ost (pe_var (i := 0) rfl v0) (pe_var (i := 1) rfl v1 hq1 hq2))), ?_⟩
  exact ⟨.ref a, rfl, y, rfl, a, D.C, [y], rfl, (by show 1 ≤ 1000; decide), D.o, ea, y, rfl, .ref a, rfl, a, D.C, rfl, D.o, D.xk.no f (List.mem_cons_self ..), .inl ⟨ea, k⟩⟩
end
/-- a class of errors without an __init__ of its own -/
structure XDef0 (K : PySem.W.Frag) (mg : Str → Option Value) (x : Str) where
  C : Addr
  m : mg x = some (.ref C)
  ex : PySem.W.excIn K C [.type "ValueError", .type "Exception", .type "BaseException", .type "object"] "ValueError.__new__" = true
  kC : PySem.W.keepIn K (.ref C) = true
  xk : XcK K x C []
def rX (K : PySem.W.Frag) (c : V) (cv : Value) : List V → Hp → VK → Prop := fun xs H Q => ∃ (a C : Addr) (od : Option Addr) (b : Bool) (x : Str) (fs : List Str), xs = [.ref a, c] ∧ H a = some (exq a C od) ∧ (∀ d, od = some d → ∃ vs, H d = some (.xd vs)) ∧ XcK K x C fs ∧ PySem.W.kitOne K (.ref C) cv = some b ∧ Q (.bl b) H
section
variable {X : Cx} {c : V} {cv : Value}
theorem call_x (hcv : ∀ u, RelV c u → u = cv) : CallR X (.builtin "isinstance") (rX X.K c cv) := by
  intro pins s σ H xs us Q I r h
  obtain ⟨a, C, od, b, x, fs, rfl, ea, ed, T, e, q⟩ := h
  match us, r with
  | [_, u], .cons r0 (.cons r1 .nil) =>
    cases r0
    have eu := hcv _ r1
    subst eu
    obtain ⟨⟨oe, vs, e1, ⟨z1, z2⟩, e3⟩, _, _⟩ := I.hok a _ ea
    have cls : (PySem.W.clsIn X.K C).isSome = true := by
      obtain ⟨cd, hc, _⟩ := PySem.W.any_some T.hd
      rw [hc]; rfl
    have no : PySem.W.notCls oe = true := by unfold PySem.W.notCls; rw [e3] <;> rfl
    have at_ : ∃ o : Option Obj, PySem.W.InstAt s.heap a oe C o := by
      cases q2 : od with
      | none => exact ⟨none, e1, z1, no, by rw [z2, q2]; exact True.intro⟩
      | some d =>
        obtain ⟨ws, hd⟩ := ed d q2
        have hx : ObjOk X.prog X.w H s.heap d (.xd ws) := I.hok d _ hd
        obtain ⟨mA, ⟨o, es, ep, ho, _⟩, _⟩ := hx
        exact ⟨some o, e1, z1, no, by rw [z2, q2]; exact ho⟩
    obtain ⟨o, J⟩ := at_
    exact PySem.W.kia_one (PySem.W.kitx_exc cls T.ga T.gg T.sub T.cl T.sp T.tk T.mro) I.kIn J e (fun z => nomatch z) fun tk => ⟨.bl b, H, I.kept (t' := tk) fun _ _ z => z, rfl, q⟩
end
/-- isinstance(an error, one class): kx says what for the class named -/
def isQ (kx : Str → Option Bool) (Q : SD → Mu → Prop) : SD → Mu → Prop := fun d μ => match d with
  | .exc x _ => (match kx x with
    | some b => Q (.bl b) μ
    | none => False)
  | _ => False
abbrev dIsX (kx : Str → Option Bool) (te : DTE) : DTE := fun ρ μ Q => te ρ μ (isQ kx Q)
section
variable {X : Cx} {x f : Str} {C : Addr} {e : Expr} {te : DTE} {p p2 pos : Pos} {kx : Str → Option Bool} {T : String}
theorem isx_go {c : SD} {v : V} {cv : Value} {Q' : SD → Mu → Prop} {Q : VK} {K : PySem.W.Frag} {F H : Hp} {μ : Mu} (hc : plain c = some v) (hk : ∀ x b C, kx x = some b → PySem.W.nsIn K mainGlobals x = some (some (.ref C)) → PySem.W.kitOne K (.ref C) cv = some b) {d : SD} {w : V} (R : HReal K F H μ) (r1 : RepS K F d w) (t : isQ kx Q' d μ)
    (k : ∀ d' μ', Q' d' μ' → ∀ F' H' v, Stp F H μ F' H' μ' → HReal K F' H' μ' → RepS K F' d' v → Q v H') : rX K v cv [w, v] H Q := by
  unfold isQ at t
  cases r1 with
  | exc0 T q =>
    simp only at t
    split at t
    · rename_i b e
      exact ⟨_, _, none, b, _, [], rfl, R.sub _ _ q, fun _ z => (by cases z), T, hk _ _ _ e T.at_, k _ _ t _ _ _ (Stp.refl _ _ _) R (.bl b)⟩
    · exact t.elim
  | exc T q q2 z r3 =>
    simp only at t
    split at t
    · rename_i b e
      exact ⟨_, _, some _, b, _, _, rfl, R.sub _ _ q, fun d z => (by cases z; exact ⟨_, R.sub _ _ q2⟩), T, hk _ _ _ e T.at_, k _ _ t _ _ _ (Stp.refl _ _ _) R (.bl b)⟩
    · exact t.elim
  | _ => exact t.elim
theorem isx_lift {c : SD} {v : V} {cv : Value} (hc : plain c = some v) (hk : ∀ x b C, kx x = some b → PySem.W.nsIn X.K mainGlobals x = some (some (.ref C)) → PySem.W.kitOne X.K (.ref C) cv = some b) (σ : L2.St) (H : Hp) (Q : VK) (h : LE X.K (dIsX kx te) σ H Q) :
    LA X.K (dCons te (dCons (dC c) dNil)) σ H (fun xs H1 => rX X.K v cv xs H1 Q) := by
  obtain ⟨F, ρ, μ, Q', R, S, t, k⟩ := h
  refine ⟨F, ρ, μ, fun ds μ1 => match ds with
    | [d, c'] => c' = c ∧ isQ kx Q' d μ1
    | _ => False, R, S, ?_, fun ds μ1 t1 F1 H1 vs s1 R1 r1 => ?_⟩
  · have mono : (fun (d : SD) (μ1 : Mu) => c = c ∧ isQ kx Q' d μ1) = isQ kx Q' := by
      funext d μ1
      exact propext ⟨fun z => z.2, fun z => ⟨rfl, z⟩⟩
    show te ρ μ (fun d μ1 => c = c ∧ isQ kx Q' d μ1)
    rw [mono]
    exact t
  · match ds, vs, r1, t1 with
    | [d, c'], [w, w'], .cons ra (.cons rb .nil), t2 =>
      have t3 : c' = c ∧ isQ kx Q' d μ1 := t2
      have ew : w' = v := by
        rw [t3.1] at rb
        exact rb.isPlain hc
      rw [ew]
      exact isx_go hc hk R1 ra t3.2 fun d' μ' q F' H' v' s R' r' => k d' μ' q F' H' v' (s1.trans s) R' r'
    | [], _, _, t1 => exact t1.elim
    | [_], _, _, t1 => exact t1.elim
    | _ :: _ :: _ :: _, _, _, t1 => exact t1.elim
theorem de_isX {D : Addr} (ha : DE X e te) (hI : Gl X "isinstance") (zI : X.mg "isinstance" = none) (hg : Gl X x) (hm : X.mg x = some (.ref D)) (hk : ∀ y b C, kx y = some b → PySem.W.nsIn X.K mainGlobals y = some (some (.ref C)) → PySem.W.kitOne X.K (.ref C) (.ref D) = some b)
    (hdb : (x == ("__debug__" : Str)) = false := by decide) (he : starEach [e, .Name x p2] X.env = (false, eval e X.env) :: starEach [.Name x p2] X.env := by rfl) (he2 : starEach [.Name x p2] X.env = (false, eval (.Name x p2) X.env) :: starEach [] X.env := by rfl)
    (hpl : (backTo pos (starEach [.Name x p2] X.env)).any (·.1) = false := by rfl) : DE X (.Call (.Name "isinstance" p) [e, .Name x p2] [] pos) (dIsX kx te) :=
  weakE (pe_callB (call_x (c := .ref D) (cv := .ref D) fun u r => r) hI zI bt_isinstance (da_cons ha (da_cons (de_glob (d := .ref D) (v := .ref D) hg hm rfl rfl hdb) da_nil he2) he) (by decide) (by decide) he hpl) (isx_lift (v := .ref D) rfl hk)
theorem de_isXT (ha : DE X e te) (hI : Gl X "isinstance") (zI : X.mg "isinstance" = none) (hg : Gl X x) (hm : X.mg x = none) (hv : bootBuiltins x = some (.type T)) (hk : ∀ y b C, kx y = some b → PySem.W.nsIn X.K mainGlobals y = some (some (.ref C)) → PySem.W.kitOne X.K (.ref C) (.type T) = some b)
    (hdb : (x == ("__debug__" : Str)) = false := by decide) (hn : x ≠ "__name__" := by decide) (he : starEach [e, .Name x p2] X.env = (false, eval e X.env) :: starEach [.Name x p2] X.env := by rfl) (he2 : starEach [.Name x p2] X.env = (false, eval (.Name x p2) X.env) :: starEach [] X.env := by rfl)
    (hpl : (backTo pos (starEach [.Name x p2] X.env)).any (·.1) = false := by rfl) : DE X (.Call (.Name "isinstance" p) [e, .Name x p2] [] pos) (dIsX kx te) :=
  weakE (pe_callB (call_x (c := .ty T) (cv := .type T) fun u r => r) hI zI bt_isinstance (da_cons ha (da_cons (de_ty hg hm hv hn hdb) da_nil he2) he) (by decide) (by decide) he hpl) (isx_lift (v := .ty T) rfl hk)
end
def tXfl (K : PySem.W.Frag) (f : Str) (te : TE) : TE := fun σ H Q => te σ H fun x H1 => ∃ (a C dx : Addr) (fs : List (Str × V)) (v : V) (y : Str) (ns : List Str), x = .ref a ∧ H1 a = some (exq a C (some dx)) ∧ H1 dx = some (.xd fs) ∧ fs.lookup f = some v ∧ XcK K y C ns ∧ f ∈ ns ∧ Q v H1
def dFld (f : Str) (te : DTE) : DTE := fun ρ μ Q => te ρ μ fun d μ1 => match d with
  | .exc _ fs => (match fs.lookup f with
    | some v => Q v μ1
    | none => False)
  | _ => False
theorem fld_at {K : PySem.W.Frag} {F : Hp} {f : Str} {d : SD} : ∀ {ds : List (Str × SD)} {vs : List (Str × V)}, vs.map (·.1) = ds.map (·.1) → RepL K F (ds.map (·.2)) (vs.map (·.2)) → ds.lookup f = some d → ∃ v, vs.lookup f = some v ∧ RepS K F d v ∧ f ∈ ds.map (·.1)
  | [], _, _, _, h => by cases h
  | (g, e) :: ds, [], h, _, _ => by simp at h
  | (g, e) :: ds, (g', w) :: vs, h, .cons r rs, hl => by
    simp only [List.map_cons, List.cons.injEq] at h
    obtain ⟨rfl, h⟩ := h
    simp only [List.lookup_cons] at hl ⊢
    split at hl
    · rename_i z
      cases hl
      exact ⟨w, rfl, r, by rw [beq_iff_eq.mp z]; exact List.mem_cons_self ..⟩
    · obtain ⟨v, a, b, c⟩ := fld_at h rs hl
      exact ⟨v, a, b, List.mem_cons_of_mem _ c⟩
section
variable {X : Cx} {f : Str} {e : Expr} {te : TE} {td : DTE} {pos : Pos}
theorem pe_xfl (he : PE X e te) (hb : attributeBase e f X.env (eval e X.env) = eval e X.env := by rfl) : PE X (.Attribute e f pos) (tXfl X.K f te) := by
  refine ⟨fun pins s σ H Q I h => attr_of hb (thn (he.run pins s σ H _ I h) fun u s1 z => ?_)⟩
  obtain ⟨x, H1, I1, rx, a, C, dx, fs, v, y, ns, rfl, ea, ed, l, T, hf, q⟩ := z
  cases rx
  obtain ⟨⟨oe, vs, e1, ⟨z1, z2⟩, e3⟩, _, _⟩ := I1.hok a _ ea
  have hx : ObjOk X.prog X.w H1 s1.heap dx (.xd fs) := I1.hok dx _ ed
  obtain ⟨mA, hns, hr⟩ := hx
  obtain ⟨o, ho, hl⟩ := lookIn_ns hns
  obtain ⟨u, hu, ru⟩ := RelO.some_of (v := v) (o := mA f) (by rw [← l]; exact hr f)
  have J : PySem.W.InstAt s1.heap a oe C (some o) := ⟨e1, z1, by unfold PySem.W.notCls; rw [e3] <;> rfl, by rw [z2]; exact ho⟩
  exact PySem.HandSPX.exc_get I1.kIn J T.ga T.gg T.sub (PySem.W.findObj_own T.hd (T.no f hf) rfl (by rw [hl, hu])) (handed_of ru) ⟨v, H1, I1.tok _, ru, q⟩
theorem de_fld (he : DE X e td) (hb : attributeBase e f X.env (eval e X.env) = eval e X.env := by rfl) : DE X (.Attribute e f pos) (dFld f td) := weakE (pe_xfl he hb) fun σ H Q h => by
  obtain ⟨F, ρ, μ, Q', R, S, t, k⟩ := h
  refine ⟨F, ρ, μ, _, R, S, t, fun d μ1 t1 F1 H1 v s1 R1 r1 => ?_⟩
  cases r1 with
  | exc0 T q => exact t1.elim
  | exc T q q2 z r3 =>
    simp only at t1
    split at t1
    · rename_i w e
      obtain ⟨v, l, r, m⟩ := fld_at z r3 e
      exact ⟨_, _, _, _, v, _, _, rfl, R1.sub _ _ q, R1.sub _ _ q2, l, T, m, k _ μ1 t1 F1 H1 v s1 R1 r⟩
    · exact t1.elim
  | _ => exact t1.elim
end
end DS
namespace DS
open PySem PySem.Spec PyProof.Rows L2
def inCls : Stmt → List Stmt
  | .ClassDef (body := b) .. => b
  | _ => []
/-- the plain facts of a class of errors (C the class, fI its own __init__, f its field) -/
structure XF (K : PySem.W.Frag) (C : Addr) : Prop where
  sa : PySem.W.findIn K (.ref C) "__setattr__" = some (some (.builtin "object.__setattr__"))
  ex : PySem.W.subIn K (.ref C) (.type "BaseException") = some true
  ty : PySem.W.typeIn K (.ref C) = some (.type "type")
  kc : PySem.W.keepIn K (.ref C) = true
  ga : PySem.W.findIn K (.ref C) "__getattribute__" = some (some (.builtin "BaseException.__getattribute__"))
  gg : PySem.W.findIn K (.ref C) "__getattr__" = some none
  hd : PySem.W.hasDictIn K C = true
  cl : PySem.W.findIn K (.ref C) "__class__" = some (some (.builtin "object.__class__"))
  sp : PySem.W.specialIn K (.builtin "object.__class__") "__get__" = some (some (.builtin "getset_descriptor.__get__"))
  tk : PySem.W.takesIn K (.builtin "object.__class__") = some true
  mro : PySem.W.mroIn K C (.type "object") = some true
/-- the class object: its name, address and the classes behind it -/
def XRow (K : PySem.W.Frag) (r : Str × Addr × List Value) : Prop := PySem.W.nsIn K mainGlobals r.1 = some (some (.ref r.2.1)) ∧ PySem.HandSPX.refsVE r.2.2 = true ∧
  ∃ nm q N bs sn sub ab col dd k0 k1 k2 k3 k5, K.lookup r.2.1 = some (excClassObj nm q r.2.1 N bs r.2.2 true sn sub ab col dd k0 k1 k2 k3 k5 "ValueError.__new__")
section
variable {K : PySem.W.Frag} {mg : Str → Option Value} {h : Heap} {x f : Str} {C fI D : Addr} {bm : List Value}
theorem XF.xck (F : XF K C) (a : PySem.W.nsIn K mainGlobals x = some (some (.ref C))) {fs : List Str} (no : ∀ f ∈ fs, PySem.W.findIn K (.ref C) f = some none) : XcK K x C fs := ⟨a, F.ga, F.gg, F.ex, F.hd, F.cl, F.sp, F.tk, F.mro, no⟩
theorem XF.oex (F : XF K C) (r : XRow K (x, C, bm)) : OexC K C := ⟨let ⟨_, v, nm, q, N, bs, sn, sub, ab, col, dd, k0, k1, k2, k3, k5, e⟩ := r; ⟨nm, q, N, bs, bm, sn, sub, ab, col, dd, k0, k1, k2, k3, k5, e, v⟩, F.sa, F.ex, F.ty, F.kc⟩
theorem xrow_cls {r : Str × Addr × List Value} (h : XRow K r) : ∃ cd, PySem.W.clsIn K r.2.1 = some cd ∧ cd.mro = .ref r.2.1 :: r.2.2 := by
  obtain ⟨_, _, nm, q, N, bs, sn, sub, ab, col, dd, k0, k1, k2, k3, k5, e⟩ := h
  refine ⟨_, by unfold PySem.W.clsIn; rw [e], rfl⟩
theorem xrow_mro {r : Str × Addr × List Value} (h : XRow K r) (b : Value) : PySem.W.mroIn K r.2.1 b = some ((Value.ref r.2.1 :: r.2.2).contains b) := by
  obtain ⟨cd, e, m⟩ := xrow_cls h
  unfold PySem.W.mroIn
  rw [e, Option.bind_some, m]
  rfl
/-- kX names c y: what isinstance says of an error of the class y asked for c -/
def kX (names : List Str) (c y : Str) : Option Bool := if y ∈ names then some (y == c || c == "KeyedError" || c == "ValueError") else none
theorem kit_row {r : Str × Addr × List Value} (h : XRow K r) (hD : (PySem.W.clsIn K D).isSome = true) (tD : PySem.W.typeIn K (.ref D) = some (.type "type")) : PySem.W.kitOne K (.ref r.2.1) (.ref D) = some (r.2.1 == D || r.2.2.contains (.ref D)) := by
  unfold PySem.W.kitOne
  by_cases e : r.2.1 = D
  · rw [if_pos (by rw [e]; exact beq_self_eq_true _), e]
    simp
  · rw [if_neg (by intro z; exact e (Value.ref.inj (beq_iff_eq.mp z)))]
    unfold PySem.W.kitCls
    dsimp only
    rw [hD, tD]
    show PySem.W.mroIn K r.2.1 (.ref D) = _
    rw [xrow_mro h, List.contains_cons]
    have : (Value.ref D == Value.ref r.2.1) = false := by
      rw [beq_eq_false_iff_ne]
      intro z
      exact e (Value.ref.inj z).symm
    rw [this, Bool.false_or]
    have : (r.2.1 == D) = false := by rw [beq_eq_false_iff_ne]; exact e
    rw [this, Bool.false_or]
def kitQ (rows : List (Str × Addr × List Value)) (c : Str) (D : Addr) : Bool := rows.all fun r => (r.2.1 == D || r.2.2.contains (.ref D)) == (r.1 == c || c == "KeyedError" || c == "ValueError")
theorem bt_ValueError : bootBuiltins "ValueError" = some (.type "ValueError") := by decide +kernel
theorem kit_ok {rows : List (Str × Addr × List Value)} {c : Str} (q : kitQ rows c D = true) (h : ∀ r ∈ rows, XRow K r) (hD : (PySem.W.clsIn K D).isSome = true) (tD : PySem.W.typeIn K (.ref D) = some (.type "type")) (y : Str) (b : Bool) (C : Addr) (e : kX (rows.map (·.1)) c y = some b)
    (a : PySem.W.nsIn K mainGlobals y = some (some (.ref C))) : PySem.W.kitOne K (.ref C) (.ref D) = some b := by
  unfold kX at e
  split at e
  · rename_i hm
    obtain ⟨r, hr, rfl⟩ := List.mem_map.mp hm
    have hx := h r hr
    obtain rfl : r.2.1 = C := by
      have z := hx.1.symm.trans a
      cases z; rfl
    rw [kit_row hx hD tD]
    have z := List.all_eq_true.mp q r hr
    rw [beq_iff_eq.mp z, e]
  · cases e
theorem kit_ve {rows : List (Str × Addr × List Value)} (h : ∀ r ∈ rows, XRow K r) (y : Str) (b : Bool) (C : Addr) (e : kX (rows.map (·.1)) "ValueError" y = some b)
    (a : PySem.W.nsIn K mainGlobals y = some (some (.ref C))) : PySem.W.kitOne K (.ref C) (.type "ValueError") = some b := by
  unfold kX at e
  split at e
  · rename_i hm
    obtain ⟨r, hr, rfl⟩ := List.mem_map.mp hm
    have hx := h r hr
    obtain rfl : r.2.1 = C := by
      have z := hx.1.symm.trans a
      cases z; rfl
    unfold PySem.W.kitOne
    rw [if_neg (by intro z; cases beq_iff_eq.mp z)]
    unfold PySem.W.kitCls
    dsimp only
    have km : PySem.W.kitMeta "ValueError" = true := by decide +kernel
    rw [if_pos km]
    show PySem.W.mroIn K r.2.1 _ = _
    rw [xrow_mro hx, List.contains_cons, PySem.HandSPX.refsVE_contains "ValueError" _ hx.2.1, ← e]
    simp
  · cases e
end
end DS
namespace DS
end DS
namespace DS
open PySem PySem.Spec PyProof.Rows L2
theorem dist_len {ns u : List Str} (h : Dist ns u) : u.length ≤ ns.length := by
  have key : ∀ {u L : List Str}, u.Nodup → (∀ k ∈ u, k ∈ L) → u.length ≤ L.length := by
    intro u
    induction u with
    | nil => intro L _ _; exact Nat.zero_le _
    | cons a u ih =>
      intro L nd s
      have nd' := List.nodup_cons.mp nd
      have ha := s a (List.mem_cons_self ..)
      have := ih (L := L.erase a) nd'.2 fun k hk => (List.mem_erase_of_ne (fun (e : k = a) => nd'.1 (by rw [← e]; exact hk))).mpr (s k (List.mem_cons_of_mem _ hk))
      rw [List.length_erase_of_mem ha] at this
      have := List.length_pos_of_mem ha
      rw [List.length_cons]
      omega
  exact key h.nd fun k hk => (h.mem k).mp hk
end DS
namespace DS
open PySem PySem.Spec PyProof.Rows L2
/-- what is known of an own class -/
structure OCls (K : PySem.W.Frag) (mg : Str → Option Value) (x : Str) where
  C : Addr
  m : mg x = some (.ref C)
  k : OcK K x C
/-- a method -/
structure MDef {K : PySem.W.Frag} {mg : Str → Option Value} {x : Str} (D : OCls K mg x) (m qual : Str) (st : Stmt) (ps : List Str) where
  f : Addr
  fd : FuncData
  F : Fun K m qual st f fd
  me : Meth K D.C m f
  b : Binds K fd ps []
/-- the own __init__ -/
structure IDef {K : PySem.W.Frag} {mg : Str → Option Value} {x : Str} (D : OCls K mg x) (qual : Str) (st : Stmt) (ps : List Str) where
  f : Addr
  fd : FuncData
  F : Fun K "__init__" qual st f fd
  maker : Mk K D.C f
  b : Binds K fd ps []
abbrev FnM (P : Program) (w : World) (base : Heap) {K : PySem.W.Frag} {mg : Str → Option Value} {x m qual : Str} {D : OCls K mg x} {st : Stmt} {ps : List Str} (M : MDef D m qual st ps) (k : Nat) (sp : DSp) : Prop := FnG P w K mg base CX0 k M.f M.fd ps (LSp K sp)
abbrev FnI (P : Program) (w : World) (base : Heap) {K : PySem.W.Frag} {mg : Str → Option Value} {x qual : Str} {D : OCls K mg x} {st : Stmt} {ps : List Str} (M : IDef D qual st ps) (k : Nat) (sp : DSp) : Prop := FnG P w K mg base CX0 k M.f M.fd ps (LSp K sp)
section
variable {K : PySem.W.Frag} {F H : Hp} {μ : Mu} {p a : Addr} {x f : Str}
/-- an object that is nobody's business -/
theorem HReal.newU (R : HReal K F H μ) {o : HO} (h : H p = none) : HReal K F (upd H p o) μ := by
  have hF := R.freeF h
  refine ⟨fun b u e => by rw [upd_ne (ne_of_none e hF)]; exact R.sub b u e, fun b m e => ?_⟩
  obtain ⟨z, u, q, r⟩ := R.mus b m e
  exact ⟨z, u, by rw [upd_ne (ne_of_none q h)]; exact q, r⟩
theorem Stp.newU {o : HO} (h : H p = none) : Stp F H μ F (upd H p o) μ :=
  ⟨Ext.refl F, fun b h1 h2 h3 => ⟨upd_ne fun z => by subst z; exact h1 h, h2, h3⟩⟩
def putS (f : Str) (v : SD) : List (Str × SD) → List (Str × SD)
  | [] => [(f, v)]
  | (g, x) :: r => if g = f then (g, v) :: r else (g, x) :: putS f v r
theorem put_rep {d : SD} {y : V} (r : RepS K F d y) : ∀ {ds : List (Str × SD)} {vs : List (Str × V)}, vs.map (·.1) = ds.map (·.1) → RepL K F (ds.map (·.2)) (vs.map (·.2)) →
    (putF f y vs).map (·.1) = (putS f d ds).map (·.1) ∧ RepL K F ((putS f d ds).map (·.2)) ((putF f y vs).map (·.2))
  | [], [], _, _ => ⟨rfl, .one r⟩
  | [], _ :: _, h, _ => by cases h
  | _ :: _, [], h, _ => by cases h
  | (g, e) :: ds, (g', w) :: vs, h, .cons ra rb => by
    simp only [List.map_cons, List.cons.injEq] at h
    obtain ⟨rfl, h⟩ := h
    by_cases q : g' = f
    · rw [putF, putS, if_pos q, if_pos q]
      exact ⟨by simp [h], .cons r rb⟩
    · rw [putF, putS, if_neg q, if_neg q]
      obtain ⟨i1, i2⟩ := put_rep r h rb
      exact ⟨by simp [i1], .cons ra i2⟩
theorem OcK.one {C D : Addr} (a : OcK K x C) (b : OcK K x D) : C = D := by
  have z := a.at_.symm.trans b.at_
  cases z; rfl
theorem look_none {ds : List (Str × SD)} {vs : List (Str × V)} (h : vs.map (·.1) = ds.map (·.1)) (e : ds.lookup f = none) : vs.lookup f = none := by
  have key : ∀ {α : Type} {l : List (Str × α)}, l.lookup f = none ↔ f ∉ l.map (·.1) := fun {α l} => by
    induction l with
    | nil => simp
    | cons q l ih =>
      obtain ⟨g, z⟩ := q
      rw [List.lookup_cons]
      split
      · rename_i hg
        have := beq_iff_eq.mp hg
        simp [this]
      · rename_i hg
        have : f ≠ g := fun z => by rw [z] at hg; simp at hg
        simp [this, ih]
  rw [key] at e ⊢
  rw [h]
  exact e
end
def aQ (x f : Str) (Q : SD → Mu → Prop) : SD → Mu → Prop := fun d μ => match d with
  | .ref a => (match μ a with
    | some (.obj y fs) => y = x ∧ (match fs.lookup f with
      | some v => Q v μ
      | none => False)
    | _ => False)
  | _ => False
abbrev dAttr (x f : Str) (te : DTE) : DTE := fun ρ μ Q => te ρ μ (aQ x f Q)
/-- o.f = e -/
def sQ (x f : Str) (y : SD) (R : Mu → Prop) : SD → Mu → Prop := fun d μ => match d with
  | .ref a => (match μ a with
    | some (.obj z fs) => z = x ∧ fs.length < 900 ∧ R (up μ a (.obj x (putS f y fs)))
    | _ => False)
  | _ => False
abbrev dPutA (x f : Str) (to tv : DTE) : DTS := fun D ρ μ => tv ρ μ fun y μ1 => to ρ μ1 (sQ x f y fun μ2 => D.nx ρ μ2)
/-- o.m(e, ..) -/
def mQ (x m : Str) (R : SD → Mu → Prop) : SD → Mu → Prop := fun d μ => match d with
  | .ref a => (match μ a with
    | some (.obj z fs) => z = x ∧ fs.lookup m = none ∧ R d μ
    | _ => False)
  | _ => False
abbrev dMeth (x m : Str) (sp : DSp) (to : DTE) (t : DTA) : DTE := fun ρ μ Q => to ρ μ (mQ x m fun d μ1 => t ρ μ1 fun ds μ2 => sp (d :: ds) μ2 Q fun _ _ _ => False)
/-- C(e, ..) -/
abbrev dMkC (x : Str) (sp : DSp) (t : DTA) : DTE := fun ρ μ Q => t ρ μ fun ds μ1 => ∀ a, μ1 a = none → sp (.ref a :: ds) (up μ1 a (.obj x [])) (fun d μ2 => d = .non ∧ Q (.ref a) μ2) fun _ _ _ => False
section
variable {X : Cx} {x m f qual : Str} {st : Stmt} {ps : List Str} {k n : Nat} {e o : Expr} {es : List Expr} {te to tv : DTE} {t : DTA} {p pos apos pos' : Pos} {sp : DSp}
theorem HReal.obj {K : PySem.W.Frag} {mg : Str → Option Value} {F H : Hp} {μ : Mu} {a : Addr} {fs : List (Str × SD)} (R : HReal K F H μ) (D : OCls K mg x) (h : μ a = some (.obj x fs)) : ∃ dx vs, H a = some (.ins D.C dx vs) ∧ vs.map (·.1) = fs.map (·.1) ∧ RepL K F (fs.map (·.2)) (vs.map (·.2)) := by
  obtain ⟨_, o, ho, r⟩ := R.mus a _ h
  cases r with
  | obj c q r =>
    obtain rfl := c.one D.k
    exact ⟨_, _, ho, q, r⟩
theorem de_attr (D : OCls X.K X.mg x) (nf : NoAttr X.K D.C f) (he : DE X e te) (hb : attributeBase e f X.env (eval e X.env) = eval e X.env := by rfl) : DE X (.Attribute e f pos) (dAttr x f te) := weakE (pe_fld he hb) fun σ H Q h => by
  obtain ⟨F, ρ, μ, Q', R, S, t, k⟩ := h
  refine ⟨F, ρ, μ, _, R, S, t, fun d μ1 t1 F1 H1 v s1 R1 r1 => ?_⟩
  unfold aQ at t1
  cases r1 with
  | ref a =>
    simp only at t1
    split at t1
    · rename_i y fs e1
      obtain ⟨rfl, t1⟩ := t1
      split at t1
      · rename_i w e2
        obtain ⟨dx, vs, h1, h2, h3⟩ := R1.obj D e1
        obtain ⟨u, l, r, _⟩ := fld_at h2 h3 e2
        exact ⟨a, D.C, dx, vs, u, rfl, h1, D.k.c, nf, l, k _ μ1 t1 F1 H1 u s1 R1 r⟩
      · exact t1.elim
    · exact t1.elim
  | _ => exact t1.elim
theorem ds_putA (D : OCls X.K X.mg x) (nf : NoAttr X.K D.C f) (ho : DE X o to) (hv : DE X e tv) (hs : swapsWith e (some (.Attribute o f pos')) pos.line X.env = pure false := by rfl) : DS_ X (.Assign [.Attribute o f pos'] e pos) (dPutA x f to tv) := weakS (ps_fld ho hv hs) fun D' σ H h => by
  obtain ⟨F, ρ, μ, E, R, S, t, k1, _⟩ := h
  refine ⟨F, ρ, μ, _, R, S, t, fun y μ1 t1 F1 H1 yv s1 R1 r1 => ?_⟩
  refine ⟨F1, ρ, μ1, _, R1, S.mono s1.ext, t1, fun d μ2 t2 F2 H2 v s2 R2 r2 => ?_⟩
  unfold sQ at t2
  cases r2 with
  | ref a =>
    simp only at t2
    split at t2
    · rename_i z fs e1
      obtain ⟨rfl, hl, t2⟩ := t2
      obtain ⟨dx, vs, h1, h2, h3⟩ := R2.obj D e1
      have len : vs.length = fs.length := by simpa using congrArg List.length h2
      obtain ⟨q1, q2⟩ := put_rep (f := f) (r1.mono s2.ext) h2 h3
      refine ⟨a, D.C, dx, vs, rfl, h1, D.k.c, nf, by omega, ?_⟩
      have s3 := Stp.put (F := F2) (H := H2) (o := .ins D.C dx (putF f yv vs)) (m := .obj z (putS f y fs)) e1
      exact k1 ρ _ t2 F2 _ _ ((s1.trans s2).trans s3) (R2.put e1 (.obj D.k q1 q2)) ((S.mono s1.ext).mono s2.ext)
    · exact t2.elim
  | _ => exact t2.elim
theorem de_meth {D : OCls X.K X.mg x} {M : MDef D m qual st ps} (G : FnM X.prog X.w X.base M k sp) (hq : Quiet X.A) (hr : Room n X.A) (he : DE X o to) (ha : DA X (e :: es) t) (hk : k ≤ n := by omega)
    (hst : starEach (e :: es) X.env = (false, eval e X.env) :: starEach es X.env := by rfl) (hpl : (backTo pos (starEach es X.env)).any (·.1) = false := by rfl) {pl : Sem Bool}
    (ht : eval (.Call (.Attribute o m apos) (e :: es) [] pos) X.env = (do
      let ov ← eval o X.env
      standAt apos.atName
      let (f, first) ← holding [ov] (getMethod ov m pl)
      callWith pos f first (backTo pos (starEach (e :: es) X.env)) (backToKw pos (keywordEach [] X.env))) := by rfl) : DE X (.Call (.Attribute o m apos) (e :: es) [] pos) (dMeth x m sp to t) := by
  refine ⟨fun pins s σ H Q I h => ?_⟩
  obtain ⟨F, ρ, μ, Q', R, S, t0, kk⟩ := h
  refine PySem.W.methodCall_KW (pl := pl) (thn (he.run pins s σ H (fun v H1 => ∃ a d F1 μ1, v = .ref a ∧ RepS X.K F1 d v ∧ Stp F H μ F1 H1 μ1 ∧ HReal X.K F1 H1 μ1 ∧ (∃ dx vs, H1 a = some (.ins D.C dx vs) ∧ vs.lookup m = none) ∧ t ρ μ1 fun ds μ2 => sp (d :: ds) μ2 Q' fun _ _ _ => False) I ⟨F, ρ, μ, _, R, S, t0, fun d μ1 t1 F1 H1 v s1 R1 r1 => ?_⟩) fun u s1 z => ?_) ht
  · unfold mQ at t1
    cases r1 with
    | ref a =>
      simp only at t1
      split at t1
      · rename_i z fs e1
        obtain ⟨rfl, hl, t1⟩ := t1
        obtain ⟨dx, vs, h1, h2, h3⟩ := R1.obj D e1
        exact ⟨a, _, F1, μ1, rfl, .ref a, s1, R1, ⟨dx, vs, h1, look_none h2 hl⟩, t1⟩
      · exact t1.elim
    | _ => exact t1.elim
  · obtain ⟨v, H1, I1, rx, a, d, F1, μ1, rfl, rd, sa, R1, ⟨dx, vs, h1, h2⟩, t1⟩ := z
    obtain rfl : u = Value.ref a := rx
    refine getmeth_ok I1 h1 D.k.c M.me h2 ?_
    refine PySem.W.callWith_K (first := [.ref a]) (h₀ := X.base) I.ok.mod.kin M.me.kp (thn (ha.run pos pins s1 σ H1 (fun vs H2 => ∃ F2 μ2 ds, Stp F1 H1 μ1 F2 H2 μ2 ∧ HReal X.K F2 H2 μ2 ∧ RepL X.K F2 ds vs ∧ sp (d :: ds) μ2 Q' fun _ _ _ => False) I1
      ⟨F1, ρ, μ1, _, R1, S.mono sa.ext, t1, fun ds μ2 t2 F2 H2 vs s2 R2 r2 => ⟨F2, μ2, ds, s2, R2, r2, t2⟩⟩) fun us s2 z => ?_) hst hpl
    obtain ⟨ws, H2, I2, r, F2, μ2, ds, s2, R2, r2, t2⟩ := z
    refine ⟨I2.kIn, ?_⟩
    refine call_g (us := .ref a :: us) (vs := .ref a :: ws) (dvs := []) (ds := []) (E := E0) G hq (hr.mono hk) M.b .nil pass0 I2 (.cons rfl r) ?_
    rw [List.append_nil]
    exact ⟨F2, μ2, d :: ds, Q', _, R2, .cons (rd.mono s2.ext) r2, t2, fun d' μ' q F' H' v s' R' r' => kk d' μ' q F' H' v ((sa.trans s2).trans s') R' r', fun _ _ _ q => q.elim⟩
end
end DS
namespace DS
open PySem PySem.Spec PyProof.Rows L2
theorem zips_at {xs ys : List SD} {i : Nat} {d : SD} (h : (zips xs ys)[i]? = some d) : ∃ x y, xs[i]? = some x ∧ ys[i]? = some y ∧ d = .tup [x, y] := by
  unfold zips at h
  rw [List.getElem?_zipWith] at h
  cases e1 : xs[i]? with
  | none => rw [e1] at h; simp at h
  | some x =>
    cases e2 : ys[i]? with
    | none => rw [e1, e2] at h; simp at h
    | some y => rw [e1, e2] at h; cases h; exact ⟨x, y, rfl, rfl, rfl⟩
theorem zips_len {xs ys : List SD} : (zips xs ys).length = min xs.length ys.length := by
  unfold zips
  exact List.length_zipWith
section
variable {K : PySem.W.Frag} {F0 H0 : Hp} {μ0 : Mu} {a b : Addr} {xs ys : List SD} {ok : Mu → Prop}
theorem pair_new {F H : Hp} {μ : Mu} {T : Addr} {x y : V} {dx dy : SD} (R : HReal K F H μ) (hT : H T = none) (rx : RepS K F dx x) (ry : RepS K F dy y) :
    ∃ F', Stp F H μ F' (upd H T (.tup [x, y])) μ ∧ HReal K F' (upd H T (.tup [x, y])) μ ∧ RepS K F' (.tup [dx, dy]) (.ref T) := by
  have ex : Ext F (upd F T (.tup [x, y])) := Ext.new (R.freeF hT)
  exact ⟨_, Stp.newS R hT, R.newS hT, .tup (.inl (.inl upd_same)) (.cons (rx.mono ex) (.one (ry.mono ex)))⟩
theorem src_zipL (h : ∀ (F H : Hp) (μ : Mu), Stp F0 H0 μ0 F H μ → HReal K F H μ → ok μ → ∃ vs us, SqL K H a vs ∧ RepL K F xs vs ∧ SqL K H b us ∧ RepL K F ys us) : Src K F0 H0 μ0 (Itz K a b) (zips xs ys) ok where
  go := fun i F H μ e R k hi => by
    obtain ⟨vs, us, h1, h2, h3, h4⟩ := h F H μ e R k
    rw [zips_len] at hi
    have l1 := h2.length
    have l2 := h4.length
    exact ⟨vs, us, vs[i]'(by omega), us[i]'(by omega), h1, h3, List.getElem?_eq_getElem _, List.getElem?_eq_getElem _⟩
  stop := fun F H μ e R k => by
    obtain ⟨vs, us, h1, h2, h3, h4⟩ := h F H μ e R k
    have l1 := h2.length
    have l2 := h4.length
    refine ⟨vs, us, h1, h3, ?_⟩
    rw [zips_len]
    omega
  yld := fun i F H μ x H' e R k y d hd => by
    obtain ⟨vs, us, h1, h2, h3, h4⟩ := h F H μ e R k
    obtain ⟨T, x1, y1, rfl, hT, rfl, ya, yb⟩ := y
    obtain ⟨dx, dy, e1, e2, rfl⟩ := zips_at hd
    obtain ⟨v1, g1, r1⟩ := h2.get e1
    obtain ⟨v2, g2, r2⟩ := h4.get e2
    have z1 := (ya vs h1).symm.trans g1
    have z2 := (yb us h3).symm.trans g2
    cases z1; cases z2
    exact pair_new R hT r1 r2
theorem src_zipT (h : ∀ (F H : Hp) (μ : Mu), Stp F0 H0 μ0 F H μ → HReal K F H μ → ok μ → ∃ vs us, SqT K H a vs ∧ RepL K F xs vs ∧ SqT K H b us ∧ RepL K F ys us) : Src K F0 H0 μ0 (RZ.ItzT K a b) (zips xs ys) ok where
  go := fun i F H μ e R k hi => by
    obtain ⟨vs, us, h1, h2, h3, h4⟩ := h F H μ e R k
    rw [zips_len] at hi
    have l1 := h2.length
    have l2 := h4.length
    exact ⟨vs, us, vs[i]'(by omega), us[i]'(by omega), h1, h3, List.getElem?_eq_getElem _, List.getElem?_eq_getElem _⟩
  stop := fun F H μ e R k => by
    obtain ⟨vs, us, h1, h2, h3, h4⟩ := h F H μ e R k
    have l1 := h2.length
    have l2 := h4.length
    refine ⟨vs, us, h1, h3, ?_⟩
    rw [zips_len]
    omega
  yld := fun i F H μ x H' e R k y d hd => by
    obtain ⟨vs, us, h1, h2, h3, h4⟩ := h F H μ e R k
    obtain ⟨T, x1, y1, rfl, hT, rfl, ya, yb⟩ := y
    obtain ⟨dx, dy, e1, e2, rfl⟩ := zips_at hd
    obtain ⟨v1, g1, r1⟩ := h2.get e1
    obtain ⟨v2, g2, r2⟩ := h4.get e2
    have z1 := (ya vs h1).symm.trans g1
    have z2 := (yb us h3).symm.trans g2
    cases z1; cases z2
    exact pair_new R hT r1 r2
end
section
variable {X : Cx} {e e2 : Expr} {ta : DTA} {p pos tpos : Pos} {elts : List Expr} {kk : Nat}
theorem di_zip (hg : Gl X "zip") (hm : X.mg "zip" = none) (ha : DA X [e, e2] ta) (hs : starEach [e, e2] X.env = (false, eval e X.env) :: starEach [e2] X.env := by rfl) (hpl : (backTo pos (starEach [e2] X.env)).any (·.1) = false := by rfl) :
    DI X (.Tuple elts kk tpos) (.Call (.Name "zip" p) [e, e2] [] pos) (jZip ta) := weakI (RZ.pi_zipA hg hm ha hs hpl) fun σ H R h => by
  obtain ⟨F, ρ, μ, Q', R0, S, t, k⟩ := h
  refine ⟨F, ρ, μ, _, R0, S, t, fun ds μ1 t1 F1 H1 vs s1 R1 r1 => ?_⟩
  match ds, r1, t1 with
  | [], _, t1 => exact t1.elim
  | [_], _, t1 => exact t1.elim
  | _ :: _ :: _ :: _, _, t1 => exact t1.elim
  | [d, f], .cons ra (.cons rb .nil), t1 =>
    obtain ⟨same, t1⟩ := (show isTup d = isTup f ∧ _ from t1)
    cases e1 : seqD μ1 d with
    | none => rw [e1] at t1; exact t1.elim
    | some xs =>
      cases e3 : seqD μ1 f with
      | none => rw [e1, e3] at t1; exact t1.elim
      | some ys =>
        rw [e1, e3] at t1
        obtain ⟨a, va, rfl, rl, c1⟩ := R1.seq ra e1
        obtain ⟨b, vb, rfl, rm, c2⟩ := R1.seq rb e3
        refine ⟨a, b, va, vb, rfl, ?_⟩
        rcases c1 with ⟨n1, q1⟩ | ⟨n1, q1⟩
        · rcases c2 with ⟨n2, q2⟩ | ⟨n2, q2⟩
          · refine .inl ⟨q1, q2, k _ _ _ t1 F1 H1 _ s1 R1 (src_zipL fun F2 H2 μ2 s2 R2 ok => ?_)⟩
            obtain ⟨a', v1, z1, r1, g1⟩ := R2.seq (ra.mono s2.ext) ok.1
            obtain ⟨b', v2, z2, r2, g2⟩ := R2.seq (rb.mono s2.ext) ok.2
            cases z1; cases z2
            rcases g1 with g1 | g1
            · rcases g2 with g2 | g2
              · exact ⟨v1, v2, g1.2, r1, g2.2, r2⟩
              · rw [n2] at g2; cases g2.1
            · rw [n1] at g1; cases g1.1
          · rw [n1, n2] at same; cases same
        · rcases c2 with ⟨n2, q2⟩ | ⟨n2, q2⟩
          · rw [n1, n2] at same; cases same
          · refine .inr ⟨q1, q2, k _ _ _ t1 F1 H1 _ s1 R1 (src_zipT fun F2 H2 μ2 s2 R2 ok => ?_)⟩
            obtain ⟨a', v1, z1, r1, g1⟩ := R2.seq (ra.mono s2.ext) ok.1
            obtain ⟨b', v2, z2, r2, g2⟩ := R2.seq (rb.mono s2.ext) ok.2
            cases z1; cases z2
            rcases g1 with g1 | g1
            · rw [n1] at g1; cases g1.1
            · rcases g2 with g2 | g2
              · rw [n2] at g2; cases g2.1
              · exact ⟨v1, v2, g1.2, r1, g2.2, r2⟩
end
end DS
namespace DS
end DS
namespace DS
open PySem PySem.Spec PyProof.Rows L2
def EsAre : List DictEntry → List (Str × Int) → Prop
  | [], [] => True
  | e :: r, (k, i) :: s => (∃ t, e.key = .str k t) ∧ (∃ t, e.val = .int i t) ∧ EsAre r s
  | _, _ => False
structure GDic (K : PySem.W.Frag) (wp : Params) (mg : Str → Option Value) (x : Str) (kvs : List (Str × Int)) where
  a : Addr
  m : mg x = some (.ref a)
  low : (a == sysModules) = false
  ex : ∃ es n, K.lookup a = some ⟨.type "dict", none, .dict es n, #[]⟩ ∧ PySem.W.KeysLit wp es.toList ∧ EsAre es.toList kvs
theorem es_find {z : Str} : ∀ {l : List DictEntry} {kvs : List (Str × Int)}, EsAre l kvs → (∀ i, kvs.lookup z = some i → ∃ e t, l.find? (·.key.isStr z) = some e ∧ e.val = .int i t) ∧ (kvs.lookup z = none → l.find? (·.key.isStr z) = none) ∧ l.any (·.refKey) = false
  | [], [], _ => ⟨(fun i h => by cases h), (fun _ => rfl), rfl⟩
  | [], _ :: _, h => h.elim
  | _ :: _, [], h => h.elim
  | e :: r, (k, i) :: s, h => by
    obtain ⟨⟨t, hk⟩, ⟨u, hv⟩, hr⟩ := h
    obtain ⟨i1, i2, i3⟩ := es_find (z := z) hr
    have key : e.key.isStr z = (z == k) := by
      rw [hk]
      show (k == z) = (z == k)
      exact Bool.eq_iff_iff.mpr ⟨fun q => beq_iff_eq.mpr (beq_iff_eq.mp q).symm, fun q => beq_iff_eq.mpr (beq_iff_eq.mp q).symm⟩
    have nr : e.refKey = false := by
      unfold DictEntry.refKey
      rw [hk]
    refine ⟨fun j hj => ?_, fun hn => ?_, by rw [List.any_cons, nr, i3]; rfl⟩
    · rw [List.lookup_cons] at hj
      rw [List.find?_cons, key]
      cases q : (z == k) with
      | true =>
        rw [q] at hj
        cases hj
        exact ⟨e, u, rfl, hv⟩
      | false =>
        rw [q] at hj
        exact i1 j hj
    · rw [List.lookup_cons] at hn
      rw [List.find?_cons, key]
      cases q : (z == k) with
      | true => rw [q] at hn; cases hn
      | false =>
        rw [q] at hn
        exact i2 hn
section
variable {K : PySem.W.Frag} {wp : Params} {mg : Str → Option Value} {x : Str} {kvs : List (Str × Int)}
theorem GDic.at_ (D : GDic K wp mg x kvs) (z : Str) : (∀ i, kvs.lookup z = some i → ∃ t, PySem.W.nsIn K D.a z = some (some (.int i t))) ∧ (kvs.lookup z = none → PySem.W.nsIn K D.a z = some none) := by
  obtain ⟨es, n, lk, _, ok⟩ := D.ex
  obtain ⟨i1, i2, i3⟩ := es_find (z := z) ok
  refine ⟨fun i h => ?_, fun h => ?_⟩
  · obtain ⟨e, t, e1, e2⟩ := i1 i h
    refine ⟨t, ?_⟩
    unfold PySem.W.nsIn
    rw [lk]
    simp only
    rw [e1]
    simp only
    rw [e2]
  · unfold PySem.W.nsIn
    rw [lk]
    simp only
    rw [i2 h]
    simp only
    rw [i3]
    rfl
end
section
variable {X : Cx} {x : Str} {kvs : List (Str × Int)} {e : Expr} {te : TE} {td : DTE} {p pos : Pos}
theorem GDic.hit (D : GDic X.K X.w.params X.mg x kvs) (z : Str) : ∃ r : Option Value, PySem.W.nsIn X.K D.a z = some r ∧ r.isSome = (kvs.lookup z).isSome := by
  obtain ⟨h1, h2⟩ := D.at_ z
  cases e : kvs.lookup z with
  | none => exact ⟨none, h2 e, rfl⟩
  | some i =>
    obtain ⟨t, q⟩ := h1 i e
    exact ⟨_, q, rfl⟩
end
end DS
namespace DS
end DS
namespace DS
open PySem PySem.Spec PyProof.Rows L2
section
variable {X : Cx} {pos tpos apos cpos : Pos} {e o kx vx : Expr} {elts ifs : List Expr} {kk : Nat} {scope : Scope} {own : List (Str × Nat)} {g : TG} {dg : DTG} {tt : DTT} {td tk tv to : DTE}
abbrev dMeth0 (x m : Str) (sp : DSp) (to : DTE) : DTE := fun ρ μ Q => to ρ μ (mQ x m fun d μ1 => sp [d] μ1 Q fun _ _ _ => False)
variable {x m qual : Str} {st : Stmt} {ps : List Str} {k n : Nat} {sp : DSp}
theorem de_meth0 {D : OCls X.K X.mg x} {M : MDef D m qual st ps} (G : FnM X.prog X.w X.base M k sp) (hq : Quiet X.A) (hr : Room n X.A) (he : DE X o to) (hk : k ≤ n := by omega) {pl : Sem Bool}
    (ht : eval (.Call (.Attribute o m apos) [] [] pos) X.env = (do
      let ov ← eval o X.env
      standAt apos.atName
      let (f, first) ← holding [ov] (getMethod ov m pl)
      callWith pos f first (backTo pos (starEach [] X.env)) (backToKw pos (keywordEach [] X.env))) := by rfl) : DE X (.Call (.Attribute o m apos) [] [] pos) (dMeth0 x m sp to) := by
  refine ⟨fun pins s σ H Q I h => ?_⟩
  obtain ⟨F, ρ, μ, Q', R, S, t0, kk⟩ := h
  refine PySem.W.methodCall_KW (pl := pl) (thn (he.run pins s σ H (fun v H1 => ∃ a d F1 μ1, v = .ref a ∧ RepS X.K F1 d v ∧ Stp F H μ F1 H1 μ1 ∧ HReal X.K F1 H1 μ1 ∧ (∃ dx vs, H1 a = some (.ins D.C dx vs) ∧ vs.lookup m = none) ∧ sp [d] μ1 Q' fun _ _ _ => False) I ⟨F, ρ, μ, _, R, S, t0, fun d μ1 t1 F1 H1 v s1 R1 r1 => ?_⟩) fun u s1 z => ?_) ht
  · unfold mQ at t1
    cases r1 with
    | ref a =>
      simp only at t1
      split at t1
      · rename_i z fs e1
        obtain ⟨rfl, hl, t1⟩ := t1
        obtain ⟨dx, vs, h1, h2, h3⟩ := R1.obj D e1
        exact ⟨a, _, F1, μ1, rfl, .ref a, s1, R1, ⟨dx, vs, h1, look_none h2 hl⟩, t1⟩
      · exact t1.elim
    | _ => exact t1.elim
  · obtain ⟨v, H1, I1, rx, a, d, F1, μ1, rfl, rd, sa, R1, ⟨dx, vs, h1, h2⟩, t1⟩ := z
    obtain rfl : u = Value.ref a := rx
    refine getmeth_ok I1 h1 D.k.c M.me h2 ?_
    refine PySem.W.callWith_K0 (first := [.ref a]) I1.kIn M.me.kp ?_
    refine call_g (us := [.ref a]) (vs := [.ref a]) (dvs := []) (ds := []) (E := E0) G hq (hr.mono hk) M.b .nil pass0 I1 (.cons rfl .nil) ?_
    rw [List.append_nil]
    exact ⟨F1, μ1, [d], Q', _, R1, .cons rd .nil, t1, fun d' μ' q F' H' v s' R' r' => kk d' μ' q F' H' v (sa.trans s') R' r', fun _ _ _ q => q.elim⟩
end
end DS
namespace DS
end DS
namespace DS
end DS
namespace DS
open PySem PySem.Spec PyProof.Rows L2
def rLenK : List V → Hp → VK → Prop := fun xs H Q => ∃ (a : Addr) (kvs : List (Key × V)), xs = [V.ref a] ∧ H a = some (.dK kvs) ∧ Q (.int kvs.length) H
def drLenD : DRc := fun ds μ Q => match ds with
  | [d] => (match mdic μ d with
    | some (_, kvs) => Q (.int kvs.length) μ
    | none => False)
  | _ => False
theorem lc_lenD {K : PySem.W.Frag} : LRc K drLenD rLenK := fun F H μ xs ds Q' Q R r t k => by
  unfold drLenD at t
  split at t
  · rename_i d
    cases e : mdic μ d with
    | none => rw [e] at t; exact t.elim
    | some pr =>
      obtain ⟨b, kvs⟩ := pr
      rw [e] at t
      simp only at t
      match xs, r with
      | [v], .cons r1 .nil =>
        obtain ⟨rfl, hm, ws, hb, rk⟩ := R.mdic r1 e
        exact ⟨b, ws, rfl, hb, by rw [← rk.len]; exact k _ μ t _ _ _ (Stp.refl _ _ _) R (.int _)⟩
  · exact t.elim
end DS
namespace DS
end DS
namespace DS
end DS
namespace DS
open PySem PySem.Spec PyProof.Rows L2
section
variable {X : Cx} {K : PySem.W.Frag} {F H : Hp} {μ : Mu}
/-- each row of the one looked up in the other -/
inductive HitsV (K : PySem.W.Frag) (H : Hp) (ls : List (Key × V)) : List (Key × V) → Bool → Prop
  | nil : HitsV K H ls [] true
  | miss {k : Key} {v : V} {r : List (Key × V)} : valV ls k = none → HitsV K H ls ((k, v) :: r) false
  | hit {k : Key} {v u : V} {p q : PyData} {r : List (Key × V)} {b : Bool} : valV ls k = some u → Dp K H v p → Dp K H u q → SeqAt.shaped p = true → SeqAt.shaped q = true → HitsV K H ls r b → HitsV K H ls ((k, v) :: r) (PyData.eqv p q && b)
theorem HitsV.run {pins : List (Addr × Obj)} {σ : L2.St} {s : Shared} {A : Around} (I : Inv X pins σ H s) (hu : A.in1.units + 64 < cLine) {ls : List (Key × V)} {vb : List (Key × Value)} (rb : KV ls vb) {ks : List (Key × V)} {b : Bool} (h : HitsV X.K H ls ks b) :
    ∀ {va : List (Key × Value)}, KV ks va → PySem.W.KeqHits A.in1 s vb va b := by
  induction h with
  | nil => intro va ra; cases ra; exact .nil
  | @miss k v r hn =>
    intro va ra
    cases ra with
    | @cons _ y _ _ a b =>
      obtain ⟨h1, h2⟩ := a
      obtain ⟨key, v2⟩ := y
      have h1' : k = key := h1
      subst h1'
      have rr : RelO none (valueAt vb k) := by rw [← hn]; exact rb.val k
      refine .miss ?_
      cases e : valueAt vb k with
      | none => rfl
      | some z => rw [e] at rr; exact rr.elim
  | @hit k v u p q r b hy hp hq sp sq _ ih =>
    intro va ra
    cases ra with
    | @cons _ y _ _ a b =>
      obtain ⟨h1, h2⟩ := a
      obtain ⟨key, v2⟩ := y
      have h1' : k = key := h1
      subst h1'
      have rr : RelO (some u) (valueAt vb k) := by rw [← hy]; exact rb.val k
      obtain ⟨y, e, ry⟩ := rr.some_of
      obtain ⟨as, r1⟩ := Dp.reads I p _ _ hp h2
      obtain ⟨bs, r2⟩ := Dp.reads I q _ _ hq ry
      exact .hit e (PySem.W.keq_at r1 r2 sp sq hu) (ih b)
end
end DS
namespace DS
end DS
namespace DS
end DS
namespace DS
end DS
namespace DS
end DS
namespace DS
end DS
namespace DS
end DS
namespace DS
end DS
namespace DS
open PySem PySem.Spec PyProof.Rows L2
def IsSI (h : Heap) (v : Value) (p : Str × Int) : Prop := ∃ a o t u n, v = .ref a ∧ h.get? a = some o ∧ o.cls = .type "tuple" ∧ o.data = .seq #[.str p.1 t, .int p.2 u] n
theorem IsSI.keep {h h' : Heap} {v : Value} {p : Str × Int} (x : IsSI h v p) (k : ∀ b o, h.get? b = some o → o.cls = .type "tuple" → h'.get? b = some o) : IsSI h' v p := by
  obtain ⟨a, o, t, u, n, e, ho, hc, hd⟩ := x
  exact ⟨a, o, t, u, n, e, k _ _ ho hc, hc, hd⟩
theorem IsSI.uniq {h : Heap} {v : Value} {p q : Str × Int} (x : IsSI h v p) (y : IsSI h v q) : p = q := by
  obtain ⟨a, o, t, u, n, e, ho, hc, hd⟩ := x
  obtain ⟨a', o', t', u', n', e', ho', hc', hd'⟩ := y
  rw [e] at e'
  cases e'
  rw [ho] at ho'
  cases ho'
  rw [hd] at hd'
  injection hd' with h1 _
  have h2 := congrArg Array.toList h1
  injection h2 with h3 h4
  injection h3 with h3 _
  injection h4 with h4 _
  injection h4 with h4 _
  exact Prod.ext h3 h4
def siD (p : Str × Int) : SD := .tup [.str p.1, .int p.2]
end DS
namespace DS
end DS
namespace DS
open PySem PySem.Spec PyProof.Rows L2
def gFld (K : PySem.W.Frag) (to : TE) (f : Str) : TG := fun v σ H Q => to σ H fun x H1 => ∃ a C dx fs, x = .ref a ∧ H1 a = some (.ins C dx fs) ∧ Cls K C ∧ NoAttr K C f ∧ fs.length < 1000 ∧ Q σ (upd H1 a (.ins C dx (putF f v fs)))
section
variable {X : Cx} {o : Expr} {f x : Str} {pos : Pos}
theorem pg_fld {to : TE} (ho : PE X o to) : PG X (.Attribute o f pos) (gFld X.K to f) := ⟨fun pins s σ H v u Q I r h => by
  rw [assign_Attribute]
  refine wpAny_bind (wpAny_holding (thn (ho.run pins s σ H _ I h) ?_))
  rintro ov s1 ⟨y, H1, I1, r1, a, C, dx, fs, rfl, ea, c, n, l, q⟩
  cases r1
  refine wpAny_bind (wpAny_standAt ?_)
  refine wpAny_bind (wpAny_holding (setattr_ok I1 ea c n l r fun s3 I3 => ?_))
  exact wpAny_release ⟨σ, _, I3, q⟩⟩
abbrev hFld (x f : Str) (to : DTE) : DTG := fun v ρ μ Q => to ρ μ (sQ x f v fun μ1 => Q ρ μ1)
theorem dg_fld {to : DTE} (D : OCls X.K X.mg x) (nf : NoAttr X.K D.C f) (ho : DE X o to) : DG X (.Attribute o f pos) (hFld x f to) := weakG (pg_fld ho) fun v σ H Q h => by
  obtain ⟨F, ρ, μ, d0, Q', R, S, r, t, k⟩ := h
  refine ⟨F, ρ, μ, _, R, S, t, fun d μ2 t2 F2 H2 w s2 R2 r2 => ?_⟩
  unfold sQ at t2
  cases r2 with
  | ref a =>
    simp only at t2
    split at t2
    · rename_i z fs e1
      obtain ⟨rfl, hl, t2⟩ := t2
      obtain ⟨dx, vs, h1, h2, h3⟩ := R2.obj D e1
      have len : vs.length = fs.length := by simpa using congrArg List.length h2
      obtain ⟨q1, q2⟩ := put_rep (f := f) (r.mono s2.ext) h2 h3
      refine ⟨a, D.C, dx, vs, rfl, h1, D.k.c, nf, by omega, ?_⟩
      have s3 := Stp.put (F := F2) (H := H2) (o := .ins D.C dx (putF f v vs)) (m := .obj z (putS f d0 fs)) e1
      exact k ρ _ t2 F2 _ σ (s2.trans s3) (R2.put e1 (.obj D.k q1 q2)) (S.mono s2.ext)
    · exact t2.elim
  | _ => exact t2.elim
end
end DS
namespace DS
open PySem PySem.Spec PyProof.Rows L2
def IsRo (h : Heap) (v : Value) (l : List Str) : Prop := ∃ a o its n, v = .ref a ∧ h.get? a = some o ∧ o.cls = .type "tuple" ∧ o.data = .seq its n ∧ StrsAre its.toList l
theorem IsRo.keep {h h' : Heap} {v : Value} {l : List Str} (x : IsRo h v l) (k : ∀ b o, h.get? b = some o → o.cls = .type "tuple" → h'.get? b = some o) : IsRo h' v l := by
  obtain ⟨a, o, its, n, e, ho, hc, hd, r⟩ := x
  exact ⟨a, o, its, n, e, k _ _ ho hc, hc, hd, r⟩
theorem strs_uniq : ∀ {us : List Value} {a b : List Str}, StrsAre us a → StrsAre us b → a = b
  | [], _, _, .nil, .nil => rfl
  | _ :: _, _, _, .cons x t r, h => by
    cases h with
    | cons y t' r' => rw [strs_uniq r r']
theorem IsRo.uniq {h : Heap} {v : Value} {p q : List Str} (x : IsRo h v p) (y : IsRo h v q) : p = q := by
  obtain ⟨a, o, its, n, e, ho, hc, hd, r⟩ := x
  obtain ⟨a', o', its', n', e', ho', hc', hd', r'⟩ := y
  rw [e] at e'
  cases e'
  rw [ho] at ho'
  cases ho'
  rw [hd] at hd'
  injection hd' with h1 _
  rw [← h1] at r'
  exact strs_uniq r r'
end DS
namespace DS
open PySem PySem.Spec PyProof.Rows L2
/-- the set at a: S says who is in, n how many; its table stands in order -/
def TxRI (P : Program) (w : World) (h : Heap) (a : Addr) (S : Int → Bool) (n : Nat) : Prop := ∃ o es ep t, h.get? a = some o ∧ o.ExactSet ∧ o.data = .set es ep t ∧ ElemsOf (PySem.intKind P w) es.toList ∧ (∀ k, S k = true ↔ ∃ e ∈ es.toList, (PySem.intKind P w).is k e.2 = true) ∧
  es.size < scanBound ∧ t.fits es.size = true ∧ es.size = n ∧ Ris t.place.toList ∧ (w.params.followText "set-order" = true ∨ t.led = true)
section
variable {P : Program} {w : World} {A : Around} {E : Value → Shared → Prop} {s : Shared} {a : Addr} {S : Int → Bool} {n : Nat}
theorem TxRI.keep {h h' : Heap} (R : TxRI P w h a S n) (k : ∀ o, h.get? a = some o → h'.get? a = some o) : TxRI P w h' a S n := by
  obtain ⟨o, es, ep, t, ho, r⟩ := R
  exact ⟨o, es, ep, t, k o ho, r⟩
end
/-- the set at a: who is in is in ns, as many as u has -/
def TxSetI (P : Program) (w : World) (h : Heap) (a : Addr) (ns u : List Int) : Prop := TxRI P w h a (fun j => decide (j ∈ ns)) u.length
section
variable {P : Program} {w : World} {A : Around} {E : Value → Shared → Prop} {s : Shared}
theorem TxSetI.keep {h h' : Heap} {a : Addr} {ns u : List Int} (R : TxSetI P w h a ns u) (k : ∀ o, h.get? a = some o → h'.get? a = some o) : TxSetI P w h' a ns u := TxRI.keep R k
end
end DS
namespace DS
end DS
namespace DS
end DS
namespace DS
end DS
namespace SKT
end SKT
namespace DS
open PySem PySem.Spec PyProof.Rows L2
/-- the lambda's code object was there, or is new and told by the table at P -/
def MadeL (H : Hp) (P : Addr) (q : Str) (H1 : Hp) : Prop := H1 = H ∨ ∃ (ps more : Array Value) (c' : Addr), H P = some (.tbl ps) ∧ H c' = none ∧ H1 = upd (upd H P (.tbl (ps ++ more))) c' (LamX.CodeO c' q) ∧ TriplesOk (ps ++ more).toList ∧
  ∀ (pos : Pos) (cv : Value), codeAmong pos (ps ++ more).toList = some cv → codeAmong pos ps.toList = some cv ∨ cv = .ref c'
/-- the module of the builtins, as the beginning has it -/
def BM (base : Heap) (mg : Str → Option Value) : Prop := ∃ (bm : Addr) (o : Obj), mg "__builtins__" = some (.ref bm) ∧ bm ≠ builtinsNs ∧ bm ≠ mainGlobals ∧ base.get? bm = some o ∧ o.cls = .type "module" ∧ o.dict = some builtinsNs ∧ o.data = .plain
/-- it is the code of the def named x that runs -/
def OwnC (X : Cx) (x : Str) : Prop := ∃ (f : Addr) (oc : Value) (od : Option Addr) (fd : FuncData) (osl : Array (Option Value)), X.mg x = some (.ref f) ∧ X.K.lookup f = some ⟨oc, od, .func fd, osl⟩ ∧ fd.code = X.env.code
theorem tabB_of {X : Cx} {pins : List (Addr × Obj)} {σ : L2.St} {H : Hp} {s : Shared} {x : Str} {P : Addr} {ps : Array Value} (I : Inv X pins σ H s) (hb : BM X.base X.mg) (hw : OwnC X x) (hT : TabAt X.K x P) (hP : H P = some (.tbl ps)) : ∃ c, X.env.code = .ref c ∧ LamX.TabB X.base X.mg c P := by
  obtain ⟨f, c, oc, od, fd, osl, h1, h2, h3, h4⟩ := hT
  obtain ⟨f', oc', od', fd', osl', g1, g2, g3⟩ := hw
  have e := PySem.W.mg_of I.mod.kin I.mod.glob h1
  rw [g1] at e; cases e
  rw [h2] at g2; cases g2
  have atP : s.heap.get? P = some { cls := .none, data := .fields ps } := I.hok P _ hP
  obtain ⟨bm, o, b1, b2, b3, b4, b5, b6, b7⟩ := hb
  refine ⟨c, by rw [← g3, h3], PySem.W.codeHd_of_K I.mod.kin h4, ⟨bm, o, b1, b2, b3, fun z => ?_, b4, b5, b6, b7⟩, fun z => ?_⟩
  · have := I.bk _ _ b4
    rw [z, atP] at this; cases this; cases b7
  · obtain ⟨o, es, ep, ho, hd, _⟩ := I.mod.glob
    have := I.bk _ _ ho
    rw [z, atP] at this; cases this; cases hd
end DS
namespace DS
end DS
namespace DS
open PySem PySem.Spec PyProof.Rows L2
/-- the table has grown by the lambda's code object -/
theorem HReal.made {K : PySem.W.Frag} {F H H2 : Hp} {μ : Mu} {P : Addr} {x q : Str} (R : HReal K F H μ) (hP : μ P = some (.tab P x q)) (m : MadeL H P q H2) : ∃ F2, HReal K F2 H2 μ ∧ Stp F H μ F2 H2 μ := by
  rcases m with rfl | ⟨ps, more, c', h1, h2, rfl, h3, h4⟩
  · exact ⟨F, R, Stp.refl _ _ _⟩
  · have hF := R.freeF h2
    have hPF := (R.mus P _ hP).1
    have Pc : P ≠ c' := fun z => by rw [z, h2] at h1; cases h1
    have ex : Ext F (upd F c' (LamX.CodeO c' q)) := Ext.new hF
    refine ⟨upd F c' (LamX.CodeO c' q), ⟨fun a o e => ?_, fun a n e => ?_⟩, ⟨ex, fun a z1 z2 z3 => ?_⟩⟩
    · by_cases ha : a = c'
      · subst ha; rw [upd_same] at e ⊢; exact e
      · rw [upd_ne ha] at e
        have aP : a ≠ P := fun z => by rw [z, hPF] at e; cases e
        rw [upd_ne ha, upd_ne aP]; exact R.sub a o e
    · obtain ⟨z, o, q1, r⟩ := R.mus a n e
      have ha : a ≠ c' := fun z => by rw [z, h2] at q1; cases q1
      refine ⟨by rw [upd_ne ha]; exact z, ?_⟩
      by_cases aP : a = P
      · subst aP
        rw [hP] at e; cases e
        rw [h1] at q1; cases q1
        refine ⟨_, by rw [upd_ne Pc, upd_same], ?_⟩
        cases r with
        | tab t1 t2 t3 =>
          refine .tab t1 h3 fun pos cv hc => ?_
          rcases h4 pos cv hc with hc | rfl
          · obtain ⟨c, e1, e2⟩ := t3 pos cv hc
            exact ⟨c, e1, ex.st _ _ rfl e2⟩
          · exact ⟨c', rfl, upd_same⟩
      · exact ⟨o, by rw [upd_ne ha, upd_ne aP]; exact q1, r.mono ex⟩
    · have ha : a ≠ c' := fun z => z1 (by rw [z]; exact h2)
      have aP : a ≠ P := fun z => by rw [z, hP] at z3; cases z3
      exact ⟨by rw [upd_ne ha, upd_ne aP], by rw [upd_ne ha]; exact z2, z3⟩
section
variable {P : Program} {w : World} {K : PySem.W.Frag} {mg : Str → Option Value} {base : Heap}
theorem def_okL {x : Str} {st : Stmt} {N ps : List Str} {k : Nat} {sp : DSp} (D : Def K mg x st ps) (S : FnScope N ps (defScope st)) (t : DTS) (len : ∀ ds μ Q E, sp ds μ Q E → ds.length = ps.length)
    (walk : ∀ (cdv : Value) (A : Around) (outer : List Env) (s : Shared) (H : Hp) (E : XK), Quiet A → Room k (A.deeper (envOfC x (defScope st) s.heap.objs.size D.f cdv)) → OwnC (cxOf CX0 P w K mg base N x (defScope st) D.f cdv A outer s H E).nox x →
      DSs (cxOf CX0 P w K mg base N x (defScope st) D.f cdv A outer s H E).nox (defBody st) t)
    (read : ∀ ds μ Q E, sp ds μ Q E → t { nx := fun _ μ' => Q .non μ', rt := Q } (begin_ N ds) μ) : FnD P w base D (k + 1) sp := by
  obtain ⟨f, fd, DF, Dm, Db⟩ := D
  obtain ⟨oc, od, kV, doc, pm, an, cdv, ct, osl, rfl, lk, hcd⟩ := DF.ex
  refine fnG_of lk hcd S (fun vs H Q E h => ?_) fun A outer s H vs Q E quiet room want => ?_
  · obtain ⟨F, μ, ds, Q', E', _, r, q, _⟩ := h
    rw [← r.length]; exact len ds μ Q' E' q
  · obtain ⟨F, μ, ds, Q', E', R, r, q, k1, _⟩ := want
    refine ⟨_, (walk cdv A outer s H E quiet room ⟨f, _, _, _, _, Dm, lk, rfl⟩).nox, F, begin_ N ds, μ, _, R, slots_begin r, read ds μ Q' E' q, ?_, k1, fun _ _ z => False.elim z, fun _ _ z => False.elim z⟩
    exact fun ρ' μ' q F' H' σ' s' R' _ => k1 .non μ' q F' H' .non s' R' .non
end
end DS
namespace DS
open PySem PySem.Spec PyProof.Rows L2
theorem lawGT {P : Program} {w : World} {K : PySem.W.Frag} {mg mb : Str → Option Value} {CX : CXT} {k : Nat} {fa a T : Addr} {fd : FuncData} {x : Str} {sp : Sp} {s₁ : Shared} {vs : List Value} {ns : List Int}
    (KX : K.In s₁.heap) (hns : s₁.heap.Ns mainGlobals mg) (hb : s₁.heap.Ns builtinsNs mb) (hbb : ∀ x : Str, x ≠ "__name__" → mb x = bootBuiltins x) (hlim : s₁.heap.NoLimit) (hgens : s₁.gens = #[])
    (tT : s₁.heap.get? T = some { cls := .none, data := .fields #[] }) (tK : K.lookup T = none) (tC : isCodeTable s₁.heap T)
    (hbm : ∃ (bm : Addr) (o : Obj), mg "__builtins__" = some (.ref bm) ∧ bm ≠ builtinsNs ∧ s₁.heap.get? bm = some o ∧ o.cls = .type "module" ∧ o.dict = some builtinsNs ∧ o.data = .plain)
    (script : s₁.heap.get? a = some { cls := .type "list", data := .seq vs.toArray }) (hi : IntsAre vs ns) (hl : ns.length ≤ sizeLine) (hr : Room k callerA)
    (F : ∀ base : Heap, K.In base → base.Ns mainGlobals mg → BM base mg → FnG P w K mg base CX k fa fd [x] sp) (hbind : ∀ (s : Shared) (u : Value), BindsTo s fd ⟨[u], []⟩ [(x, u)])
    (promise : ∀ H : Hp, H T = some (.tbl #[]) → SqL K H a (ns.map V.int) → sp [.ref a] H (fun v _ => v = .bl true) fun _ _ _ => False) (quiet : ∀ H e s', CX [] H s₁ (fun _ _ _ => False) e s' → False) :
    codeAny (model P w) callerA (.call (.ref fa) ⟨[.ref a], []⟩) (fun r s' => r = .ok (.ret (.bool true)) ∧ OldK s₁.heap s'.heap ∧ s'.os = s₁.os ∧ AllBare s'.gens) s₁ := by
  have vals := vals_ints hi
  have same := hi.length
  have aT : a ≠ T := fun z => by
    rw [z, tT] at script
    exact nomatch (congrArg Obj.data (Option.some.inj script) : Data.fields #[] = Data.seq vs.toArray _)
  have main : ∀ H : Hp, H T = some (.tbl #[]) → (∀ b, b ≠ T → H b = none ∨ ∃ ob xs, H b = some (.frz ob (.lst xs))) → SqL K H a (ns.map V.int) → HOk P w H s₁.heap → (∀ b, b ≠ T → H b ≠ none → b = a ∧ K.lookup a = none) →
      codeAny (model P w) callerA (.call (.ref fa) ⟨[.ref a], []⟩) (fun r s' => r = .ok (.ret (.bool true)) ∧ OldK s₁.heap s'.heap ∧ s'.os = s₁.os ∧ AllBare s'.gens) s₁ := by
    intro H hT only seen holds only_a
    have none_at : ∀ b, b ≠ T → (b = a → K.lookup a ≠ none) → H b = none := fun b bT hb => by
      cases q : H b with
      | none => rfl
      | some u =>
        obtain ⟨e1, e2⟩ := only_a b bT (by rw [q]; exact fun z => nomatch z)
        exact absurd e2 (hb e1)
    have other : ∀ {b : Addr} {o : Obj}, s₁.heap.get? b = some o → (∀ us n, o.data ≠ .seq us n) → o.data ≠ .fields #[] → H b = none := fun {b o} e d1 d2 => by
      have bT : b ≠ T := fun z => by
        rw [z, tT] at e
        exact d2 (congrArg Obj.data (Option.some.inj e)).symm
      cases q : H b with
      | none => rfl
      | some u =>
        obtain ⟨ea, _⟩ := only_a b bT (by rw [q]; exact fun z => nomatch z)
        rw [ea, script] at e
        exact absurd (congrArg Obj.data (Option.some.inj e)).symm (d1 _ _)
    have ns_of : ∀ {b : Addr} {m : Str → Option Value}, s₁.heap.Ns b m → (hidT s₁.heap H).Ns b m := fun ⟨o, es, ep, e, d, r⟩ =>
      ⟨o, es, ep, hidT_get e (other e (fun us n z => by rw [d] at z; cases z) fun z => by rw [d] at z; cases z), d, r⟩
    have kb : K.In (hidT s₁.heap H) := fun b o e => hidT_get (KX b o e) (none_at b (fun z => by rw [z, tK] at e; cases e) fun z => by subst z; rw [e]; exact fun q => nomatch q)
    have md : Mod K mg (hidT s₁.heap H) := ⟨kb, ns_of hns, ⟨mb, ns_of hb, hbb⟩, let ⟨mc, h1, h2⟩ := hlim; ⟨mc, ns_of h1, h2⟩⟩
    have bmd : BM (hidT s₁.heap H) mg := by
      obtain ⟨bm, o, b1, b2, b3, b4, b5, b6⟩ := hbm
      refine ⟨bm, o, b1, b2, fun z => ?_, hidT_get b3 (other b3 (fun us n z => by rw [b6] at z; cases z) fun z => by rw [b6] at z; cases z), b4, b5, b6⟩
      obtain ⟨o', es, ep, e, d, _⟩ := hns
      rw [z, e] at b3
      cases b3
      rw [d] at b6; cases b6
    have e0 : Env0 P w K mg (hidT s₁.heap H) callerA [] s₁ H := ⟨rfl, md, fun b o e => of_hidT e, Nat.le_of_eq (hidT_size _ _), trivial, fun b hb => absurd (show b ∈ ([] : List Addr) from hb) (by simp), holds, .of_eq hgens⟩
    refine codeAny_mono ((F _ kb (ns_of hns) bmd).go callerA [] s₁ H ⟨[.ref a], []⟩ [.ref a] [.ref a] _ _ rfl hr e0 (hbind s₁ (.ref a)) (.cons rfl .nil) (promise H hT seen)) fun out s' h => ?_
    match out, h with
    | .error e, h => exact (quiet H e s' h).elim
    | .ok .next, h => exact False.elim h
    | .ok .brk, h => exact False.elim h
    | .ok .cont, h => exact False.elim h
    | .ok (.ret u), h =>
      obtain ⟨v, H', os, bare, un, holds', rel, q⟩ := h
      obtain rfl : v = .bl true := q
      obtain rfl : u = Value.bool true := rel
      have stays : ∀ b o, b ≠ T → s₁.heap.get? b = some o → s'.heap.get? b = some o := fun b o bT e => by
        rcases only b bT with z | ⟨ob, xs, z⟩
        · exact un.keep b o e z (by intro z; exact absurd (show b ∈ ([] : List Addr) from z) (by simp)) (by simp)
        · have now := un.frzs b ob _ z
          obtain ⟨e1, _⟩ := holds b _ z
          obtain ⟨e2, _⟩ := holds' b _ now
          rw [e] at e1; cases e1
          exact e2
      obtain ⟨more, hm⟩ := un.tbls T #[] hT
      have grown : s'.heap.get? T = some { cls := .none, data := .fields (#[] ++ more) } := holds' T _ hm
      refine ⟨rfl, ⟨fun b o e => ?_, fun b o e => ?_⟩, os, bare⟩
      · by_cases bT : b = T
        · subst bT
          rw [tT] at e; cases e
          exact .inr (.inl ⟨tC, rfl, #[], more, rfl, grown⟩)
        · exact .inl (stays b o bT e)
      · by_cases bT : b = T
        · subst bT; exact ⟨_, grown⟩
        · exact ⟨o, stays b o bT e⟩
  by_cases hk : K.lookup a = none
  · refine main (fun b => if b = T then some (.tbl #[]) else if b = a then some (.frz { cls := .type "list", data := .seq vs.toArray } (.lst (ns.map V.int))) else none) (if_pos rfl) (fun b bT => ?_) (.inl (.inr ⟨{ cls := .type "list", data := .seq vs.toArray }, by show (if a = T then _ else _) = _; rw [if_neg aT, if_pos rfl]⟩)) (fun b u z => ?_) fun b bT z => ?_
    · by_cases hb : b = a
      · exact .inr ⟨_, _, by show (if b = T then _ else _) = _; rw [if_neg bT, if_pos hb]⟩
      · exact .inl (by show (if b = T then _ else _) = _; rw [if_neg bT, if_neg hb])
    · by_cases bT : b = T
      · have z : some (HO.tbl #[]) = some u := (if_pos bT).symm.trans z
        cases z
        subst bT
        exact tT
      · have z : (if b = a then some (HO.frz { cls := .type "list", data := .seq vs.toArray } (.lst (ns.map V.int))) else none) = some u := (if_neg bT).symm.trans z
        by_cases hb : b = a
        · cases (if_pos hb).symm.trans z
          subst hb
          exact ⟨script, by rw [List.length_map]; exact hl, vs, _, vals, script⟩
        · cases (if_neg hb).symm.trans z
    · by_cases hb : b = a
      · exact ⟨hb, hk⟩
      · exact absurd (by show (if b = T then _ else _) = _; rw [if_neg bT, if_neg hb]) z
  · obtain ⟨o, ho⟩ := Option.ne_none_iff_exists'.mp hk
    have e := KX a o ho
    rw [script] at e
    cases e
    refine main (fun b => if b = T then some (.tbl #[]) else none) (if_pos rfl) (fun b bT => .inl (if_neg bT)) (.inr ⟨_, vs.toArray, _, ho, rfl, rfl, rfl, by rw [List.size_toArray, same]; exact hl, by simpa using vals⟩) (fun b u z => ?_) fun b bT z => absurd (if_neg bT) z
    by_cases bT : b = T
    · have z : some (HO.tbl #[]) = some u := (if_pos bT).symm.trans z
      cases z
      subst bT
      exact tT
    · exact nomatch (if_neg bT).symm.trans z
/-- x0: the def that makes functions -/
theorem walkGT {l : PySem.W.OpenLaw} {n k : Nat} {q : Program} {loose : List Str} {XP : (Str → Option Value) → Heap → Prop} {YP : World → Heap → Prop} {d : DefRec} {K : Params → PySem.W.Frag} {CX : CXT} {sp : PySem.W.Frag → Sp} {x x0 : Str}
    (hn : l.most = some n) (hn2 : n ≤ sizeLine) (hdf : d.params.defaults = []) (hr : Room k callerA) (hY : ∀ (w : World) (h : Heap), YP w h → (K w.params).In h) (hrec : ((recsOf q).any fun e => e.name == x0) = true)
    (F : ∀ (w : World) (mg : Str → Option Value) (fa : Addr) (h : Heap), (K w.params).In h → h.Ns mainGlobals mg → mg d.name = some (.ref fa) →
      ∃ (T : Addr) (fd : FuncData), TabAt (K w.params) x0 T ∧ (K w.params).lookup T = none ∧ (∀ (s : Shared) (u : Value), BindsTo s fd ⟨[u], []⟩ [(x, u)]) ∧ ∀ base : Heap, (K w.params).In base → base.Ns mainGlobals mg → BM base mg → FnG l.prog w (K w.params) mg base CX k fa fd [x] (sp (K w.params)))
    (hsp : ∀ (K : PySem.W.Frag) (H : Hp) (a T : Addr) (ns : List Int), ns.length ≤ n → TabAt K x0 T → H T = some (.tbl #[]) → SqL K H a (ns.map V.int) → sp K [.ref a] H (fun v _ => v = .bl true) fun _ _ _ => False)
    (hCX : ∀ (H : Hp) (s : Shared) (e : Value) (s' : Shared), CX [] H s (fun _ _ _ => False) e s' → False) : PySem.W.WalkO q loose XP YP l.row.toRowW d [] (fun f vs => PySem.call f vs) :=
  Att.attach_call hn hdf fun w s₀ s₁ mg mb fa o pm cd doc a vs ns G Y ho hd hcd hmg hobj hints hlen hg => by
    have KX := hY w _ Y
    obtain ⟨T, fd, hT, nT, hb, hF⟩ := F w mg fa _ KX G.T.g hmg
    obtain ⟨dL, hm, hn1⟩ := List.any_eq_true.mp hrec
    have hn2' : dL.name = x0 := beq_iff_eq.mp hn1
    obtain ⟨f', o', fd', c', T', t1, t2, t3, t4, t5, t6⟩ := G.T.tab dL hm
    have hT0 := hT
    obtain ⟨f, c, oc, od, fd0, osl, g1, g2, g3, g4⟩ := hT
    rw [hn2', PySem.W.mg_of KX G.T.g g1] at t1
    cases t1
    rw [KX _ _ g2] at t2
    cases t2
    cases t3
    rw [g3] at t4
    cases t4
    have hd' := PySem.W.codeHd_of_K KX g4
    obtain ⟨o1, us, file, tf, flags, tg, inF, text, tt, e1, r1, r2, r3, _⟩ := hd'
    obtain ⟨⟨o2, us2, e2, _, q2, q3⟩, q4⟩ := id t6
    rw [e1] at e2
    cases e2
    rw [r2] at q2
    cases q2
    rw [r3] at q3
    cases q3
    exact lawGT KX G.T.g G.T.b G.T.builtins G.T.nolimit hg q4 nT t6.isCodeTable G.T.bmain hobj hints (Nat.le_trans hlen hn2) hr hF hb (fun H h1 h2 => hsp _ H a _ ns hlen hT0 h1 h2) fun H e s' => hCX H s₁ e s'
/-- the script is handed in, the table is empty -/
theorem law_startT {K : PySem.W.Frag} {H : Hp} {a T : Addr} {ns : List Int} {sp : DSp} {x q : Str} (hA : TabAt K x T) (hT : H T = some (.tbl #[])) (hS : SqL K H a (ns.map V.int)) (h : ∀ μ, μ T = some (.tab T x q) → sp [.rol (ns.map SD.int)] μ (fun d _ => d = .bl true) (fun _ _ _ => False)) : LSp K sp [.ref a] H (fun v _ => v = .bl true) fun _ _ _ => False := by
  have sq : SqL K (fun b => if b = T then none else H b) a (ns.map V.int) := by
    rcases hS with (z | ⟨o, z⟩) | z
    · refine .inl (.inl ?_)
      show (if a = T then none else H a) = _
      rw [if_neg (fun e => by rw [e, hT] at z; cases z)]; exact z
    · refine .inl (.inr ⟨o, ?_⟩)
      show (if a = T then none else H a) = _
      rw [if_neg (fun e => by rw [e, hT] at z; cases z)]; exact z
    · exact .inr z
  refine ⟨fun b => if b = T then none else H b, fun b => if b = T then some (.tab T x q) else none, [.rol (ns.map SD.int)], _, _, ⟨fun b o e => ?_, fun b m e => ?_⟩, .one (.rol sq (RepL.ofInts ns)), h _ (if_pos rfl), fun d μ' q F' H' v s R r => by subst q; cases r; rfl, fun _ _ _ q => q.elim⟩
  · by_cases hb : b = T
    · exact nomatch (if_pos hb).symm.trans e
    · exact (if_neg hb).symm.trans e
  · by_cases hb : b = T
    · cases (if_pos hb).symm.trans e
      subst hb
      exact ⟨if_pos rfl, _, hT, .tab hA trivial fun pos cv hc => by
        have z : codeAmong pos [] = some cv := hc
        simp [codeAmong] at z⟩
    · exact nomatch (if_neg hb).symm.trans e
end DS
namespace DS
open PySem PySem.Spec PyProof.Rows L2
/-- the code object of the def at f, and its table -/
def tabOf (K : PySem.W.Frag) (f : Addr) : Addr × Addr := match K.lookup f with
  | some ⟨_, _, .func fd, _⟩ => (match fd.code with
    | .ref c => (match K.lookup c with
      | some ⟨_, _, .fields vs, _⟩ => (match (vs[11]? : Option Value) with
        | some (.ref P) => (c, P)
        | _ => (0, 0))
      | _ => (0, 0))
    | _ => (0, 0))
  | _ => (0, 0)
end DS
namespace DS
end DS
namespace DS
end DS
namespace DS
end DS
namespace DS
open PySem PySem.Spec PyProof.Rows L2
def ItK (b : Bool) (h : Heap) (it a : Addr) (i : Nat) : Prop := if b = true then h.IsTupleIter it a i else h.IsListIter it a i
def itO (b : Bool) (a : Addr) : Obj := { cls := .type (if b = true then "tuple_iterator" else "list_iterator"), data := .fields #[.ref a, .int 0 0] }
theorem ItK.ob {b : Bool} {h : Heap} {it a : Addr} {i : Nat} (x : ItK b h it a i) : ∃ o, h.get? it = some o ∧ ∀ v, o.data ≠ .cell v := by
  unfold ItK at x
  cases b with
  | true =>
    obtain ⟨o, e, _, d⟩ := (show h.IsTupleIter it a i from x)
    exact ⟨o, e, fun v z => by rw [d] at z; cases z⟩
  | false =>
    obtain ⟨o, e, _, d⟩ := (show h.IsListIter it a i from x)
    exact ⟨o, e, fun v z => by rw [d] at z; cases z⟩
theorem ItK.start {b : Bool} {h : Heap} {it a : Addr} (e : h.get? it = some (itO b a)) : ItK b h it a 0 := by
  unfold ItK
  cases b with
  | true => exact ⟨_, e, rfl, rfl⟩
  | false => exact ⟨_, e, rfl, rfl⟩
end DS
namespace DS
open PySem PySem.Spec PyProof.Rows L2
/-- divmod by a positive divisor -/
def drDivmod : DRc := fun ds μ Q => match ds with
  | [.int i, .int j] => CDivP i j ∧ Q (.tup [.int (i / j), .int (i % j)]) μ
  | _ => False
section
variable {K : PySem.W.Frag}
theorem lc_divmod : LRc K drDivmod (fun xs H Q => ∃ i j, xs = [.int i, .int j] ∧ CDivP i j ∧ ∀ p, H p = none → Q (.ref p) (upd H p (.tup [.int (i / j), .int (i % j)]))) := fun F H μ xs ds Q' Q R r t k => by
  unfold drDivmod at t
  split at t
  · cases r with
    | cons r1 r2 => cases r2 with
      | cons r3 r4 =>
        cases r4; cases r1; cases r3
        obtain ⟨c, t⟩ := t
        exact ⟨_, _, rfl, c, fun q hq => k _ μ t _ _ _ (Stp.newS R hq) (R.newS hq) (.tup (.inl (.inl upd_same)) (.cons (.int _) (.one (.int _))))⟩
  · exact t.elim
theorem bt_divmod : bootBuiltins "divmod" = some (.builtin "divmod") := by decide +kernel
theorem divP {i j : Int} (h0 : 0 ≤ i) (hj : 0 < j) (h : i < 2 ^ 1000) : CDivP i j := divp_ok hj (by
  have := PyProof.Rows.intBits_le (a := i) (k := 1000) (by omega)
  omega)
end
end DS
namespace DS
open PySem PySem.Spec PyProof.Rows L2
/-- a def, with defaults or without -/
structure FunV (K : PySem.W.Frag) (x qual : Str) (st : Stmt) (f : Addr) (fd : FuncData) : Prop where
  ex : ∃ (oc : Value) (od : Option Addr) (dV kV doc pm : Value) (an : Option Addr) (cdv ct : Value) (osl : Array (Option Value)),
    fd = PySem.W.fnOf x qual (defArgs st) (defBody st) (defScope st) dV kV doc pm an cdv ct ∧ K.lookup f = some ⟨oc, od, .func fd, osl⟩ ∧ PySem.W.codeIn K cdv qual = true
  kp : PySem.W.keepIn K (.ref f) = true
structure IDefV {K : PySem.W.Frag} {mg : Str → Option Value} {x : Str} (D : OCls K mg x) (qual : Str) (st : Stmt) (ps : List Str) where
  f : Addr
  fd : FuncData
  F : FunV K "__init__" qual st f fd
  maker : Mk K D.C f
  b : Binds K fd ps []
section
variable {P : Program} {w : World} {K : PySem.W.Frag} {mg : Str → Option Value} {base : Heap}
/-- all is given: the defaults are looked up, and not used -/
theorem bindsV {fd : FuncData} {ps : List Str} {T : Addr} {o : Obj} {its : Array Value} {n : Nat} (lT : K.lookup T = some o) (oT : o.data = .seq its n)
    (h : ∀ us : List Value, us.length = ps.length → ∃ k, bindArgs fd ⟨us, []⟩ = seqItems? (.ref T) >>= k ∧ k (some its) = pure (ps.zip us)) : Binds K fd ps [] := fun s us X hlen => by
  rw [List.append_nil] at hlen ⊢
  obtain ⟨k, e1, e2⟩ := h us hlen
  refine BindsTo.of_looks fun M => ?_
  rw [e1]
  exact looks_items X lT oT (.of_pure e2)
end
end DS
namespace DS
end DS
namespace DS
end DS
namespace DS
open PySem PySem.Spec PyProof.Rows L2
/-- what the clause 'except c as n' wishes: behind the suite the error's object is known -/
def wTrk (K : PySem.W.Frag) (c : Value) (i : Nat) (ts : Addr → Value → Option Addr → TS) (Wout : WX) (D : Ends) : WX := fun cls d σ H =>
  ∃ b, PySem.W.exmOne K cls c = some b ∧ (b = true → ∃ C, cls = .ref C ∧ ∀ a, H a = none → ts a cls d
    { nx := fun σ' H' => D.nx (σ'.set i none) (upd H' a (exq a C d)), rt := fun v H' => D.rt v (upd H' a (exq a C d)), bk := fun σ' H' => D.bk (σ'.set i none) (upd H' a (exq a C d)), ct := fun σ' H' => D.ct (σ'.set i none) (upd H' a (exq a C d)) } (σ.set i (some (.ref a))) H) ∧
    (b = false → Wout cls d σ H)
section
variable {X : Cx} {pins : List (Addr × Obj)} {σ : L2.St} {H : Hp} {s : Shared}
theorem inv_unsuite {a : Addr} {q : Addr × Obj} {pn' : List (Addr × Obj)} (I : Inv (X.suite a (q :: (X.pn ++ pins))) pn' σ H s) (ok : X.Ok) : Inv X (q :: pins) σ H s :=
  ⟨ok, I.os, I.bare, I.base, I.loc, I.cell, I.free, I.freeC, fun p hp => I.pin p (List.mem_append_left _ (by
    rcases List.mem_append.mp hp with h | h
    · exact List.mem_cons_of_mem _ (List.mem_append_left _ h)
    · rcases List.mem_cons.mp h with h | h
      · rw [h]; exact List.mem_cons_self ..
      · exact List.mem_cons_of_mem _ (List.mem_append_right _ h))), I.hok, I.len⟩
/-- an error's object that has come since the def was entered is known from now on -/
theorem inv_track {a C : Addr} {d : Option Addr} {oe : Obj} {vs : Array Value} (I : Inv X ((a, oe) :: pins) σ H s) (fresh : X.s_0.heap.get? a = none) (hd : oe.data = .fields vs) (hz : Zc (.ref C) d oe) (np : ∀ p ∈ X.pn ++ pins, p.1 ≠ a) : Inv X pins σ (upd H a (exq a C d)) s := by
  obtain ⟨e1, e2, e3, e4, e5⟩ := I.pin (a, oe) (List.mem_append_right _ (List.mem_cons_self ..))
  have e1 : s.heap.get? a = some oe := e1
  have e2 : H a = none := e2
  have sub : ∀ {p : Addr × Obj}, p ∈ X.pn ++ pins → p ∈ X.pn ++ ((a, oe) :: pins) := fun {p} hp => by
    rcases List.mem_append.mp hp with h | h
    · exact List.mem_append_left _ h
    · exact List.mem_append_right _ (List.mem_cons_of_mem _ h)
  have nb : ∀ {b : Addr} {o : Obj}, X.s_0.heap.get? b = some o → b ≠ a := fun {b o} e z => by rw [z, fresh] at e; cases e
  have nH : ∀ {b : Addr} {u : HO}, H b = some u → b ≠ a := fun {b u} e => ne_of_none e e2
  refine ⟨I.ok, I.os, I.bare, ⟨I.base.keep, I.base.slot, fun b o e n hx => ?_, I.base.there, fun b xs e => ?_, fun b o u e => ?_, fun b ps e => ?_⟩, I.loc, I.cell, ?_, fun y c e => ?_, fun p hp => ?_, fun b u e => ?_, I.len⟩
  · rw [upd_ne (nb e)]; exact I.base.free b o e n hx
  · have := I.base.tups b xs e
    rw [upd_ne (nH this)]; exact this
  · have := I.base.frzs b o u e
    rw [upd_ne (nH this)]; exact this
  · obtain ⟨more, this⟩ := I.base.tbls b ps e
    exact ⟨more, by rw [upd_ne (nH this)]; exact this⟩
  · rw [upd_ne (fun z => e3 z.symm)]; exact I.free
  · have hc : c ≠ a := fun z => by
      obtain ⟨v, o, ho, hcd⟩ := I.cell y c e
      rw [z, e1] at ho
      cases ho
      rw [hd] at hcd; cases hcd
    rw [upd_ne hc]; exact I.freeC y c e
  · obtain ⟨f1, f2, f3, f4, f5⟩ := I.pin p (sub hp)
    exact ⟨f1, by rw [upd_ne (np p hp)]; exact f2, f3, f4, f5⟩
  · by_cases hb : b = a
    · subst hb
      rw [upd_same] at e
      cases e
      exact ⟨⟨oe, vs, e1, hz, hd⟩, ⟨oe, e1⟩, fun h1 h2 ⟨oe, vs, g1, g2, g3⟩ st => ⟨oe, vs, st _ g1, g2, g3⟩⟩
    · rw [upd_ne hb] at e
      exact (I.hok b u e).stay (fun _ _ _ q => q) (fun d q => by rw [upd_ne (nH q)]; exact q) fun d xs q => by rw [upd_ne (nH q)]; exact q
end
section
variable {X : Cx} {x n : Str} {c : Value} {i : Nat} {body suite : List Stmt} {b₀ : Stmt} {np pos pos' : Pos} {tb : WX → TS} {ts : Addr → Value → Option Addr → TS} {Wout : WX}
theorem ps_try_trk (hs : X.stack = X.env :: X.outer) (hf : X.env.frame = some X.env.locals) (hex : X.ex = []) (hN : X.N.Nodup) (hi : X.N[i]? = some n) (hln : X.env.kindOf n = some .local) (hc : Names X x c) (tk : Takes X Wout)
    (hb : ∀ (W : WX) (pn : List (Addr × Obj)) (xe : Value → Shared → Prop), Takes (X.tr pn xe) W → PassesOwn (model X.prog X.w) X.A X.env xe → PSs (X.tr pn xe) body (tb W))
    (hsu : ∀ (a : Addr) (oe : Obj) (cls : Value) (d : Option Addr) (pn : List (Addr × Obj)), Zc cls d oe → (∃ vs, oe.data = .fields vs) → PSs (X.suite a ((a, oe) :: pn)) (b₀ :: suite) (ts a cls d)) :
    PS X (.Try body [.ExceptHandler (some (.Name x np)) (some n) (b₀ :: suite) pos'] [] [] pos) (fun D σ H => tb (wTrk X.K c i ts Wout D) D σ H) := by
  refine ⟨fun pins s σ H D I h => ?_⟩
  have ok := I.ok
  have hfr : X.A.frames = some (X.env :: X.outer) := by rw [ok.frames, hs]
  have hloc : Loc X.env.scope n := .inl hln
  refine wpAny_Try_except ?_
  refine wpAny_mono ((hb (wTrk X.K c i ts Wout D) (X.pn ++ pins) (fun e s₁ => wpAny (model X.prog X.w) X.A (noteFrame e X.env) (fun _ s₂ => wpAny (model X.prog X.w) X.A (setFlight e none) (fun _ s₃ =>
    wpAny (model X.prog X.w) X.A (handleBy e X.env [.ExceptHandler (some (.Name x np)) (some n) (b₀ :: suite) pos']) (SP X pins D) X.xe s₃) X.xe s₂) X.xe s₁) (fun u s' xx => ?_) PassesOwn.looking).run [] s σ H D (I.toTry _) h) (fun f s1 hsp => ?_) (fun e s1 he => he)
  · obtain ⟨a, B, sI, pins', σ', H', cls, d, rfl, J', nb, up, sky, na, os, ag, b, hb1, hyes, hno⟩ := xx
    have J : Inv X pins σ' H' sI := J'.ofTry ok
    have sky' : Sky B (X.env :: X.outer) a (Zc cls d) X.env.locals s'.heap := by rw [← hs]; exact sky
    show wpAny (model X.prog X.w) X.A (noteFrame (.ref a) X.env) _ _ _
    refine Sky.land Zc.steady hfr hf sky' fun h3 fl3 up3 => ?_
    have J3 : Inv X pins σ' H' { s' with heap := h3 } := J.landed nb fl3.1 (up.trans up3) os ag
    obtain ⟨oe3, vs3, he3, hz3, hd3⟩ := fl3.there
    have notFr : ∀ {h : Heap} {o : Obj} {vs : Array Value}, h.FunFrames B (X.env :: X.outer) → h.get? a = some o → o.data = .fields vs → a ∉ frs (X.env :: X.outer) := fun {h o vs} ff e dd hm => by
      obtain ⟨_, o', e', hnf⟩ := ff.mem hm
      rw [e] at e'; cases e'
      exact hnf _ dd
    have nfr := notFr fl3.2.2.1 he3 hd3
    have nL : a ≠ X.env.locals := fun z => nfr (List.mem_filterMap.mpr ⟨X.env, List.mem_cons_self, by rw [hf, z]⟩)
    have nF : a ∉ X.fs := fun hm => by
      obtain ⟨e, he, q⟩ := List.mem_filterMap.mp hm
      exact nfr (List.mem_filterMap.mpr ⟨e, List.mem_cons_of_mem _ he, q⟩)
    have notI : ∀ o, sI.heap.get? a ≠ some o := fun o e => by
      have := nb a o e (by rw [hs]; exact nfr)
      rw [fl3.2.1] at this; cases this
    have fresh : X.s_0.heap.get? a = none := by
      cases q : X.s_0.heap.get? a with
      | none => rfl
      | some o =>
        obtain ⟨o', e'⟩ := J.base.there a o q (by rw [hex]; simp)
        exact (notI o' e').elim
    have npin : ∀ p ∈ X.pn ++ pins, p.1 ≠ a := fun p hp z => notI p.2 (by have := (J.pin p hp).1; rw [z] at this; exact this)
    have S3 := J3.suite he3 hd3 na nL nF
    refine wpAny_handleBy_cons (codeAny_handlers_test ?_) (by intro q; cases q)
    have LT : PySem.W.Looks (model X.prog X.w) h3 (typeOf (.ref a)) cls := fun A Q E s k q => wpAny_typeOf_ref (k _ _ he3) (by rw [hz3.1]; exact q)
    have LM := PySem.W.exm_one (M := model X.prog X.w) (J3.kIn) LT hb1
    have test : ∀ {Q : Value → Shared → Prop} {E : Value → Shared → Prop}, Q c { s' with heap := h3 } → wpAny (model X.prog X.w) (X.A.mark (some (.ref a))) (eval (.Name x np) X.env) Q E { s' with heap := h3 } := fun {Q E} q => by
      obtain ⟨hg, hdbg, hm | ⟨hm, hv, hnn⟩⟩ := hc
      · exact ld_glob (X := X.suite a ((a, oe3) :: (X.pn ++ pins))) S3 hg hm q hdbg
      · exact ld_blt (X := X.suite a ((a, oe3) :: (X.pn ++ pins))) S3 hg hm hv q hnn hdbg
    refine test (LM.here ?_)
    cases b with
    | true =>
      obtain ⟨C, eC, hyes⟩ := hyes rfl
      subst eC
      refine codeAny_handlers_suite_as ?_
      refine HandSPX.lands_againZ fl3 fun h4 fl4 up4 => ?_
      have J4 : Inv X pins σ' H' { s' with heap := h4 } := J.landed nb fl4.1 ((up.trans up3).trans up4) os ag
      obtain ⟨oe4, vs4, he4, hz4, hd4⟩ := fl4.there
      have S4 := J4.suite he4 hd4 na nL nF
      refine store_ok (X := X.suite a ((a, oe4) :: (X.pn ++ pins))) (v := .ref a) S4 hN hi hloc rfl (fun s5 S5 => ?_) (.inr hln)
      refine wpAny_mono ((hsu a oe4 (.ref C) d (X.pn ++ pins) hz4 ⟨_, hd4⟩).run [] s5 _ H' _ S5 (hyes a na)) (fun f s6 hsp => ?_) (fun _ _ z => False.elim z)
      have end_ : ∀ {σ6 : L2.St} {H6 : Hp} {Q : Shared → Prop}, Inv (X.suite a ((a, oe4) :: (X.pn ++ pins))) [] σ6 H6 s6 → (∀ s7, Inv X pins (σ6.set i none) (upd H6 a (exq a C d)) s7 → Q s7) →
          wpAny (model X.prog X.w) X.A (do bindName X.env n .none; unbindBehindTheSuite X.env n pos') (fun _ s7 => Q s7) X.xe s6 := fun {σ6 H6 Q} S6 hq => gone_ok (inv_unsuite S6 ok) hN hi hln fun s7 J7 => hq s7 (inv_track J7 fresh hd4 hz4 npin)
      cases f with
      | next =>
        obtain ⟨σ6, H6, S6, q6⟩ := hsp
        exact end_ S6 fun s7 J7 => ⟨_, _, J7, q6⟩
      | brk =>
        obtain ⟨σ6, H6, S6, q6⟩ := hsp
        exact end_ S6 fun s7 J7 => ⟨_, _, J7, q6⟩
      | cont =>
        obtain ⟨σ6, H6, S6, q6⟩ := hsp
        exact end_ S6 fun s7 J7 => ⟨_, _, J7, q6⟩
      | ret u =>
        obtain ⟨v6, σ6, H6, S6, r6, q6⟩ := hsp
        exact end_ S6 fun s7 J7 => ⟨_, _, _, J7, r6, q6⟩
    | false =>
      show wpAny _ X.A (handleBy (.ref a) X.env []) _ _ _
      refine wpAny_handleBy_nil ?_
      obtain ⟨k1, k2, k3, oe, vs, T, oT, ts', he, hz, hd, h1, hr⟩ := id fl3
      unfold PySem.passOn
      refine wpAny_bind (wpAny_field he hd h1 ?_)
      rw [if_neg (show ¬ ((Value.ref T == Value.none) = true) from by simp)]
      have fin : wpAny (model X.prog X.w) X.A (setFlight (.ref a) X.env.frame) (fun _ s4 => wpAny (model X.prog X.w) X.A (throw (.ref a) : Sem Flow) (SP X pins D) X.xe s4) X.xe { s' with heap := h3 } := by
        rw [hf]
        refine HandSPX.setFlight_upZ fl3 fun h4 hh4 up4 => wpAny_throw (tk _ _ ?_)
        exact ⟨a, B, sI, pins, σ', H', cls, d, rfl, J, nb, (up.trans up3).trans up4, .inr (.inr (by rw [hs]; exact hh4)), na, os, ag, hno rfl⟩
      first
        | exact wpAny_bind (wpAny_pure (wpAny_bind fin))
        | exact wpAny_bind fin
  · cases f with
    | next =>
      obtain ⟨σ', H', J', q⟩ := hsp
      exact wpAny_execs_nil ⟨σ', H', J'.ofTry ok, q⟩
    | brk =>
      obtain ⟨σ', H', J', q⟩ := hsp
      exact ⟨σ', H', J'.ofTry ok, q⟩
    | cont =>
      obtain ⟨σ', H', J', q⟩ := hsp
      exact ⟨σ', H', J'.ofTry ok, q⟩
    | ret u =>
      obtain ⟨v, σ', H', J', r, q⟩ := hsp
      exact ⟨v, σ', H', J'.ofTry ok, r, q⟩
end
end DS
namespace DS
open PySem PySem.Spec PyProof.Rows L2 LamX
section
variable {X : Cx} {pins : List (Addr × Obj)} {σ : L2.St} {H HZ : Hp} {s s1 : Shared}
/-- x(), in the def that got the lambda -/
theorem pe_actS {CXg : CXT} {Eg : XK} {Ng : List Str} {qg : Str} {sg : Scope} {g f c' : Addr} {cdg pm ctv : Value} {params : Arguments} {body : Expr} {scope : Scope} {k i : Nat} {a : Str} {pn : List (Addr × Obj)} {xe : Value → Shared → Prop} {W : WX} {tb : XK → TE} {p1 p2 : Pos}
    (I : Inv X pins σ H s) (L : LamS X.env.scope scope) (hf : s.heap.get? f = some (PySem.W.kla_obj "<lambda>" (X.env.qual ++ "<lambda>") params body scope (cloFrom X.env.cells scope.names []) pm c' ctv)) (hfn : H f = none) (hfr : f ∉ frs X.stack)
    (hbind : bindArgs (PySem.W.kla_fn "<lambda>" (X.env.qual ++ "<lambda>") params body scope (cloFrom X.env.cells scope.names []) pm (.ref c') ctv) ⟨[], []⟩ = pure [])
    (tk : Takes ((cxOf CXg X.prog X.w X.K X.mg X.base Ng qg sg g cdg X.A X.stack s H Eg).tr pn xe) W) (hr : Room (k + 1) (X.A.deeper (envOfC qg sg s.heap.objs.size g cdg)))
    (hbody : ∀ (A : Around) (outer : List Env) (s : Shared) (H : Hp) (E : XK), A.guards = X.A.guards → Room k (A.deeper (lamEnv X scope s.heap.objs.size f c')) → PE (lamCx X A outer s H E scope f c') body (tb E))
    (hN : Ng[i]? = some a) (hv : Vis sg a) (hd : (a == ("__debug__" : Str)) = false := by decide) (hcd : (a == ("__classdict__" : Str)) = false := by decide) :
    PE ((cxOf CXg X.prog X.w X.K X.mg X.base Ng qg sg g cdg X.A X.stack s H Eg).tr pn xe) (.Call (.Name a p1) [] [] p2)
      (fun σZ HZ Q => σZ[i]? = some (some (.ref f)) ∧ HZ c' = some (CodeO c' (X.env.qual ++ "<lambda>")) ∧ ∃ E : XK, (∀ cls d H', E cls d H' → W cls d σZ H') ∧ tb E σ HZ Q) := by
  refine ⟨fun pinsZ sZ σZ HZ Q IZ h => ?_⟩
  obtain ⟨hs, hc, E, hW, ht⟩ := h
  refine wpAny_Call_Name_kw (thn ((pe_var (pos := p1) (i := i) hN hv hd hcd).run pinsZ sZ σZ HZ (fun v H1 => v = .ref f ∧ H1 = HZ) IZ ⟨.ref f, hs, rfl, rfl⟩) fun u s1 ⟨v, H1, I1, r1, q1⟩ => ?_)
  obtain ⟨ev, eH⟩ := q1
  subst ev
  rw [eH] at I1
  obtain rfl : u = Value.ref f := r1
  have of1 : s1.heap.get? f = some (PySem.W.kla_obj "<lambda>" (X.env.qual ++ "<lambda>") params body scope (cloFrom X.env.cells scope.names []) pm c' ctv) := I1.base.keep f _ hf hfn hfr (fun z => nomatch (show f ∈ ([] : List Addr) from z))
  refine PySem.W.callWith_F0 ⟨_, _, _, _, of1⟩ ?_
  have un : Un (frs X.stack) [] H HZ s.heap s1.heap := I1.base
  obtain ⟨⟨oc, vs, t, hoc, hdc, hvc⟩, _, _⟩ := I1.hok c' _ hc
  have rc : codeAny (model X.prog X.w) (X.A.deeper (envOfC qg sg s.heap.objs.size g cdg)) (.call (.ref f) ⟨[], []⟩) (CR (L2.CX X.prog X.w) (envOfC qg sg s.heap.objs.size g cdg :: X.stack) X.prog X.w HZ s1 Q E) s1 := by
    refine PySem.W.kla_callFunE hr.depth of1 rfl L.co L.gen rfl ⟨c', oc, vs, t, rfl, hoc, hdc, hvc⟩ ?_
    rw [hbind]
    refine wpAny_pure (wpAny_newFunctionEnv (fun y hy => (L.own y hy).2) (fun y hy => absurd hy (by simp)) (fun h₁ hns hsb => ⟨I1.nolimit.fresh _ hsb, ?_⟩) L.kind)
    show codeAny _ _ (.expr body (lamEnv X scope s1.heap.objs.size f c')) _ _
    have kp : ∀ b o, s1.heap.get? b = some o → h₁.get? b = some o := fun b o e => hsb.extBut b o (Nat.ne_of_lt (Heap.lt_size e)) (Heap.get?_push_of_some _ e)
    have J : Inv (lamCx X (X.A.deeper (envOfC qg sg s.heap.objs.size g cdg)) (envOfC qg sg s.heap.objs.size g cdg :: X.stack) s1 HZ E scope f c') [] σ HZ { s1 with heap := h₁, toks := s1.toks + ([] : List (Str × Value)).length } :=
      lam_start2 I L I1.env0 hr.hd un hns kp
    refine PySem.W.kla_codeExpr (wpAny_mono ((hbody (X.A.deeper (envOfC qg sg s.heap.objs.size g cdg)) _ s1 HZ E rfl (hr.deeper _)).run [] _ _ HZ Q J ht) (fun v s' hq => ?_) fun e s' hq => hq)
    obtain ⟨w', H', J', rv, q⟩ := hq
    exact ⟨w', H', J'.os, J'.bare, J'.base, J'.hok, rv, q⟩
  refine wpAny_call (codeAny_mono rc fun r s' hq => ?_)
  cases r with
  | error e => exact tk e s' (XE.of_call I1 hW hq)
  | ok fl =>
    cases fl with
    | ret u => exact I1.after hq
    | next => exact False.elim hq
    | brk => exact False.elim hq
    | cont => exact False.elim hq
/-- the lambda's code object at c' is the table's, or new and now in the table -/
def MadeC (H : Hp) (P : Addr) (q : Str) (c' : Addr) (H1 : Hp) : Prop := (H1 = H ∧ ∃ (ps : Array Value) (pos : Pos), H P = some (.tbl ps) ∧ codeAmong pos ps.toList = some (.ref c')) ∨
  ∃ ps more, H P = some (.tbl ps) ∧ H c' = none ∧ H1 = upd (upd H P (.tbl (ps ++ more))) c' (CodeO c' q) ∧ TriplesOk (ps ++ more).toList ∧ ∀ (pos : Pos) (cv : Value), codeAmong pos (ps ++ more).toList = some cv → codeAmong pos ps.toList = some cv ∨ cv = .ref c'
/-- the lambda is made; its address is new -/
theorem lam_make4 {c P : Addr} {q : Str} {params : Arguments} {body : Expr} {scope : Scope} {pos : Pos} {ps : Array Value} {E : Value → Shared → Prop} {Q : Value → Shared → Prop} (I : Inv X pins σ H s) (TB : LamX.TabB X.base X.mg c P) (hcode : X.env.code = .ref c)
    (hq : q = X.env.qual ++ "<lambda>") (hP : H P = some (.tbl ps)) (ht : TriplesOk ps.toList) (ha : ∀ (pos : Pos) (cv : Value), codeAmong pos ps.toList = some cv → ∃ c, cv = .ref c ∧ H c = some (LamX.CodeO c q))
    (hdef : defaultsOf params X.env = ([], [])) (hfree : ∀ y ∈ scope.names, y.2 = .free → ∃ c, X.env.cells.lookup y.1 = some c)
    (h : ∀ (f c' : Addr) (pm ctv : Value) (H1 : Hp) (s' : Shared), Inv X pins σ H1 s' → MadeC H P q c' H1 → H1 f = none → f ∉ frs X.stack →
      s'.heap.get? f = some (PySem.W.kla_obj "<lambda>" q params body scope (cloFrom X.env.cells scope.names []) pm c' ctv) → H1 c' = some (LamX.CodeO c' q) → Q (.ref f) s') :
    wpAny (model X.prog X.w) X.A (eval (.Lambda params body scope pos) X.env) Q E s := by
  subst hq
  refine PySem.W.kla_eval hdef ?_
  have bP : s.heap.BuiltinsAt X.mg P := TB.bm.keeps I.bk
  have hP' : s.heap.get? P = some { cls := .none, data := .fields ps } := I.hok P _ hP
  have nofr : ∀ f, s.heap.objs.size ≤ f → f ∉ frs X.stack := fun f hf z => by
    rcases List.mem_cons.mp (I.stkSub _ z) with e | e
    · have h1 := I.lt
      rw [← e] at h1
      exact Nat.lt_irrefl _ (Nat.lt_of_lt_of_le h1 hf)
    · exact I.nofs hf e
  cases hc : codeAmong pos ps.toList with
  | none =>
    refine PySem.W.kla_makeFunction (mg := X.mg) (c := c) (P := P) (ps := ps) (closure_ok hfree) I.ok.glob (I.mod.glob.keeps I.bk) hcode (TB.code.keeps I.bk) hP' ht hc TB.gP bP fun c' ctv h' tk hx hge hlt hrec htb => ?_
    obtain ⟨c2, oc, vs, t, e2, hoc, hd, hv⟩ := hrec
    cases e2
    have nC : H c' = none := I.hok.fresh hge
    have hsz : s.heap.objs.size ≤ h'.objs.size := Nat.le_trans hge (Nat.le_of_lt hlt)
    have I1 := LamX.inv_table (t' := tk) (more := #[rawInt pos.line, rawInt pos.col, .ref c']) (h' := h'.push (PySem.W.kla_obj "<lambda>" (X.env.qual ++ "<lambda>") params body scope (cloFrom X.env.cells scope.names []) ((X.mg "__name__").getD .none) c' ctv)) I hP
      (fun b o hb e => Heap.get?_push_of_some _ (hx b o hb e)) (Heap.get?_push_of_some _ htb) hge ⟨oc, vs, t, Heap.get?_push_of_some _ hoc, hd, hv⟩
    have eL : (ps ++ #[rawInt pos.line, rawInt pos.col, .ref c']).toList = ps.toList ++ [rawInt pos.line, rawInt pos.col, .ref c'] := by simp
    refine h h'.objs.size c' ((X.mg "__name__").getD .none) ctv _ _ I1 (.inr ⟨ps, _, hP, nC, rfl, by rw [eL]; exact PySem.TriplesOk_snoc _ _ _ _ ht, fun p' cv hcv => ?_⟩) ?_ (nofr _ hsz) (Heap.get?_push_size _ rfl) upd_same
    · rw [eL] at hcv
      exact LamX.among_app _ ht hcv
    · have n1 : h'.objs.size ≠ c' := Nat.ne_of_gt hlt
      have n2 : h'.objs.size ≠ P := Nat.ne_of_gt (Nat.lt_of_lt_of_le (Heap.lt_size hP') hsz)
      rw [upd_ne n1, upd_ne n2]
      exact I.hok.fresh hsz
  | some cv =>
    obtain ⟨c', e, hco⟩ := ha pos cv hc
    subst e
    refine PySem.W.kla_makeFunctionHit (mg := X.mg) (c := c) (P := P) (ps := ps) (closure_ok hfree) I.ok.glob (I.mod.glob.keeps I.bk) hcode (TB.code.keeps I.bk) hP' ht hc bP fun ctv h' tk hx hsz => ?_
    have I1 : Inv X pins σ H { s with heap := h'.push (PySem.W.kla_obj "<lambda>" (X.env.qual ++ "<lambda>") params body scope (cloFrom X.env.cells scope.names []) ((X.mg "__name__").getD .none) c' ctv), toks := tk } := I.kept fun b o e => Heap.get?_push_of_some _ (hx b o e)
    exact h h'.objs.size c' ((X.mg "__name__").getD .none) ctv H _ I1 (.inl ⟨rfl, ps, pos, hP, hc⟩) (I.hok.fresh hsz) (nofr _ hsz) (Heap.get?_push_size _ rfl) hco
end
/-- the def g that calls what it got (its first parameter a): TT: what it makes of the lambda's reading -/
def GivesS (X : Cx) (Ng : List Str) (x : Str) (sg : Scope) (g : Addr) (cdg : Value) (bg : List Stmt) (a : Str) (q : Str) (TT : Addr → Addr → (XK → Hp → VK → Prop) → Hp → VK → Prop) : Prop :=
  ∀ (f c' : Addr) (s : Shared) (H : Hp) (Q : VK) (tl : XK → Hp → VK → Prop),
    (∀ (W : WX) (pn : List (Addr × Obj)) (xe : Value → Shared → Prop) (p1 p2 : Pos), Takes ((cxOf C8.CX0 X.prog X.w X.K X.mg X.base Ng x sg g cdg X.A X.stack s H C8.E0).tr pn xe) W →
      PE ((cxOf C8.CX0 X.prog X.w X.K X.mg X.base Ng x sg g cdg X.A X.stack s H C8.E0).tr pn xe) (.Call (.Name a p1) [] [] p2) (fun σZ HZ Q => σZ[0]? = some (some (.ref f)) ∧ HZ c' = some (CodeO c' q) ∧ ∃ E : XK, (∀ cls d H', E cls d H' → W cls d σZ H') ∧ tl E HZ Q)) →
    H c' = some (CodeO c' q) → TT f c' tl H Q →
    ∃ t, PSs (cxOf C8.CX0 X.prog X.w X.K X.mg X.base Ng x sg g cdg X.A X.stack s H C8.E0).nox bg t ∧ t { nx := fun _ H' => Q .non H', rt := Q } (L2.start Ng [.ref f]) H
def tLamS (K : PySem.W.Frag) (y q : Str) (TT : Addr → Addr → (XK → Hp → VK → Prop) → Hp → VK → Prop) (t : XK → TE) : TE := fun σ H Q => ∃ (P : Addr) (ps : Array Value), TabAt K y P ∧ H P = some (.tbl ps) ∧ TriplesOk ps.toList ∧
  (∀ (pos : Pos) (cv : Value), codeAmong pos ps.toList = some cv → ∃ c, cv = .ref c ∧ H c = some (LamX.CodeO c q)) ∧
  ∀ (f c' : Addr) (H1 : Hp), MadeC H P q c' H1 → H1 f = none → H1 c' = some (LamX.CodeO c' q) → TT f c' (fun E H' Q' => t E σ H' Q') H1 Q
section
variable {X : Cx}
/-- x(lambda: body), in the def named y -/
theorem pe_lamcallS {TT : Addr → Addr → (XK → Hp → VK → Prop) → Hp → VK → Prop} {x a y q : Str} {g : Addr} {k : Nat} {pg : Arguments} {bg : List Stmt} {sg : Scope} {dV kV doc pm cdv ct oc : Value} {an od : Option Addr} {osl : Array (Option Value)} {Ng : List Str}
    {params : Arguments} {body : Expr} {scope : Scope} {t : XK → TE} {p lpos pos : Pos} (hbm : BM X.base X.mg) (hw : OwnC X y) (hq : q = X.env.qual ++ "<lambda>") (hg : Gl X x) (hm : X.mg x = some (.ref g)) (hk : PySem.W.keepIn X.K (.ref g) = true)
    (lk : X.K.lookup g = some ⟨oc, od, .func (PySem.W.fnOf x x pg bg sg dV kV doc pm an cdv ct), osl⟩) (hcg : PySem.W.codeIn X.K cdv x = true) (hb : L2.Binds X.K (PySem.W.fnOf x x pg bg sg dV kV doc pm an cdv ct) [a] []) (Sg : FnScope Ng [a] sg) (hNg : Ng[0]? = some a) (hva : Vis sg a)
    (hG : GivesS X Ng x sg g cdv bg a q TT)
    (hr : Room (k + 2) X.A) (L : LamS X.env.scope scope) (hdef : defaultsOf params X.env = ([], []))
    (hbind : ∀ (q : Str) (cl : List (Str × Addr)) (pm cv ctv : Value), bindArgs (PySem.W.kla_fn "<lambda>" q params body scope cl pm cv ctv) ⟨[], []⟩ = pure [])
    (hbody : ∀ (A : Around) (outer : List Env) (s : Shared) (H : Hp) (E : XK) (f c' : Addr), A.guards = X.A.guards → Room k (A.deeper (lamEnv X scope s.heap.objs.size f c')) → PE (lamCx X A outer s H E scope f c') body (t E))
    (hdb : (x == ("__debug__" : Str)) = false := by decide) (hd : (a == ("__debug__" : Str)) = false := by decide) (hcd : (a == ("__classdict__" : Str)) = false := by decide) :
    PE X (.Call (.Name x p) [.Lambda params body scope lpos] [] pos) (tLamS X.K y q TT t) := by
  refine ⟨fun pins s σ H Q I h => ?_⟩
  obtain ⟨P, ps, hTA, hP, ht, ha, h⟩ := h
  obtain ⟨c, hcode, TB⟩ := tabB_of I hbm hw hTA hP
  refine wpAny_Call_Name_kw (ld_glob I hg hm ?_ hdb)
  refine PySem.W.callWith_K (h₀ := X.base) I.ok.mod.kin hk ?_ (by rfl) (by rfl)
  show wpAny _ _ (spliced ((false, eval (.Lambda params body scope lpos) X.env) :: backTo pos (starEach [] X.env))) _ _ s
  refine Calls.spliced_cons (lam_make4 I TB hcode hq hP ht ha hdef (L.has I.ok) fun f c' pm' ctv H1 s' I1 made hfn hfr hf hco => ?_)
  refine Calls.spliced_nil ⟨I1.kIn, ?_⟩
  subst hq
  have rc : codeAny (model X.prog X.w) X.A (.call (.ref g) ⟨[.ref f], []⟩) (CR C8.CX0 X.stack X.prog X.w H1 s' Q C8.E0) s' := by
    refine run_ofS (N := Ng) (ps := [a]) (us := [.ref f]) (vs := [.ref f]) lk hcg Sg hr I1.env0 (hb s' [.ref f] I1.kIn rfl) (.cons rfl .nil) rfl fun hr' => ?_
    obtain ⟨t', ht', hq'⟩ := hG f c' s' H1 Q (fun E H' Q' => t E σ H' Q') (fun W pn xe p1 p2 tk => pe_actS (i := 0) I1 L hf hfn hfr (hbind _ _ _ _ _) tk hr' (fun A outer s H E hgd hr2 => hbody A outer s H E f c' hgd hr2) hNg hva hd hcd) hco (h f c' H1 made hfn hco)
    exact ⟨t', ht'.nox, hq'⟩
  refine wpAny_call (codeAny_mono rc fun r s2 hq => ?_)
  cases r with
  | error e => exact (show False from hq).elim
  | ok fl =>
    cases fl with
    | ret u => exact I1.after hq
    | next => exact False.elim hq
    | brk => exact False.elim hq
    | cont => exact False.elim hq
end
end DS
namespace DS
open PySem PySem.Spec PyProof.Rows L2
/-- the wish for errors: the class by its name, the fields -/
abbrev DXX := Str → List (Str × SD) → Mu → Prop
abbrev DSpX := List SD → Mu → (SD → Mu → Prop) → DXX → Prop
abbrev HInv := Hp → Hp → Mu → Prop
def Grows (An : HInv) : Prop := ∀ F H μ F' H' μ', An F H μ → Stp F H μ F' H' μ' → An F' H' μ'
theorem grows_stp (F H : Hp) (μ : Mu) : Grows (Stp F H μ) := fun _ _ _ _ _ _ a b => a.trans b
/-- the own dict of an error, known for good -/
def XRepF (K : PySem.W.Frag) (F : Hp) (od : Option Addr) (fs : List (Str × SD)) : Prop :=
  (od = none ∧ fs = []) ∨ ∃ d vs, od = some d ∧ F d = some (.xd vs) ∧ vs.map (·.1) = fs.map (·.1) ∧ RepL K F (fs.map (·.2)) (vs.map (·.2))
/-- an error in the air, told in data -/
def EX (K : PySem.W.Frag) (An : HInv) (Ex : DXX) : XK := fun cls od H => ∃ F μ C x fs, cls = .ref C ∧ An F H μ ∧ HReal K F H μ ∧ XcK K x C (fs.map (·.1)) ∧ XRepF K F od fs ∧ Ex x fs μ
def LSpX (K : PySem.W.Frag) (sp : DSpX) : Sp := fun vs H Q E => ∃ F μ ds Q' E', HReal K F H μ ∧ RepL K F ds vs ∧ sp ds μ Q' E' ∧
  (∀ d μ', Q' d μ' → ∀ F' H' v, Stp F H μ F' H' μ' → HReal K F' H' μ' → RepS K F' d v → Q v H') ∧ ∀ cls od H', EX K (Stp F H μ) E' cls od H' → E cls od H'
theorem EX.mono {K : PySem.W.Frag} {An An' : HInv} {Ex : DXX} {cls : Value} {od : Option Addr} {H : Hp} (h : EX K An Ex cls od H) (k : ∀ F H μ, An F H μ → An' F H μ) : EX K An' Ex cls od H := by
  obtain ⟨F, μ, C, x, fs, e, a, r⟩ := h
  exact ⟨F, μ, C, x, fs, e, k _ _ _ a, r⟩
def LEA (K : PySem.W.Frag) (An : HInv) (t : DTE) : TE := fun σ H Q => ∃ F ρ μ Q', HReal K F H μ ∧ Slots K F σ ρ ∧ An F H μ ∧ t ρ μ Q' ∧
  ∀ d μ', Q' d μ' → ∀ F' H' v, Stp F H μ F' H' μ' → HReal K F' H' μ' → RepS K F' d v → Q v H'
def LTA (K : PySem.W.Frag) (An : HInv) (t : DTT) : TT := fun σ H Q => ∃ F ρ μ Q', HReal K F H μ ∧ Slots K F σ ρ ∧ An F H μ ∧ t ρ μ Q' ∧
  ∀ b μ', Q' b μ' → ∀ F' H', Stp F H μ F' H' μ' → HReal K F' H' μ' → Q b H'
def LAA (K : PySem.W.Frag) (An : HInv) (t : DTA) : TA := fun σ H Q => ∃ F ρ μ Q', HReal K F H μ ∧ Slots K F σ ρ ∧ An F H μ ∧ t ρ μ Q' ∧
  ∀ ds μ', Q' ds μ' → ∀ F' H' vs, Stp F H μ F' H' μ' → HReal K F' H' μ' → RepL K F' ds vs → Q vs H'
def LSA (K : PySem.W.Frag) (An : HInv) (t : DTS) : TS := fun D σ H => ∃ F ρ μ D', HReal K F H μ ∧ Slots K F σ ρ ∧ An F H μ ∧ t D' ρ μ ∧
  (∀ ρ' μ', D'.nx ρ' μ' → ∀ F' H' σ', Stp F H μ F' H' μ' → HReal K F' H' μ' → Slots K F' σ' ρ' → D.nx σ' H') ∧
  (∀ d μ', D'.rt d μ' → ∀ F' H' v, Stp F H μ F' H' μ' → HReal K F' H' μ' → RepS K F' d v → D.rt v H') ∧
  (∀ ρ' μ', D'.bk ρ' μ' → ∀ F' H' σ', Stp F H μ F' H' μ' → HReal K F' H' μ' → Slots K F' σ' ρ' → D.bk σ' H') ∧
  (∀ ρ' μ', D'.ct ρ' μ' → ∀ F' H' σ', Stp F H μ F' H' μ' → HReal K F' H' μ' → Slots K F' σ' ρ' → D.ct σ' H')
abbrev EA (An : HInv) (X : Cx) (e : Expr) (t : DTE) : Prop := PE X e (LEA X.K An t)
abbrev TA_ (An : HInv) (X : Cx) (e : Expr) (t : DTT) : Prop := PT X e (LTA X.K An t)
abbrev AA (An : HInv) (X : Cx) (es : List Expr) (t : DTA) : Prop := PA X es (LAA X.K An t)
abbrev SA (An : HInv) (X : Cx) (s : Stmt) (t : DTS) : Prop := PS X s (LSA X.K An t)
abbrev SAs (An : HInv) (X : Cx) (s : List Stmt) (t : DTS) : Prop := PSs X s (LSA X.K An t)
section
variable {An : HInv} {X : Cx} {pos p : Pos} {a b c e o iter tg : Expr} {es : List Expr} {x : Str} {st : Stmt} {rest body ss uu : List Stmt} {te ta tb : DTE} {tt : DTT} {t u : DTS} {ts : DTA}
/-- what raises nothing -/
theorem ea (h : DE X e te) : EA An X e te := weakE h fun _ _ _ ⟨F, ρ, μ, Q', R, S, _, t, k⟩ => ⟨F, ρ, μ, Q', R, S, t, k⟩
theorem ta_ (h : DT X e tt) : TA_ An X e tt := weakT h fun _ _ _ ⟨F, ρ, μ, Q', R, S, _, t, k⟩ => ⟨F, ρ, μ, Q', R, S, t, k⟩
theorem aa (h : DA X es ts) : AA An X es ts := weakA h fun _ _ _ ⟨F, ρ, μ, Q', R, S, _, t, k⟩ => ⟨F, ρ, μ, Q', R, S, t, k⟩
theorem sa (h : DS_ X st t) : SA An X st t := weakS h fun _ _ _ ⟨F, ρ, μ, D', R, S, _, t, k⟩ => ⟨F, ρ, μ, D', R, S, t, k⟩
theorem sas (h : DSs X body t) : SAs An X body t := weakSs h fun _ _ _ ⟨F, ρ, μ, D', R, S, _, t, k⟩ => ⟨F, ρ, μ, D', R, S, t, k⟩
theorem sas_cons (hA : Grows An) (h1 : SA An X st t) (h2 : SAs An X rest u) : SAs An X (st :: rest) (dSeq t u) := weakSs (pss_cons h1 h2) fun D σ H h => by
  obtain ⟨F, ρ, μ, D', R, S, an, t, k, k2, k3, k4⟩ := h
  exact ⟨F, ρ, μ, _, R, S, an, t, fun ρ1 μ1 t1 F1 H1 σ1 s1 R1 S1 => ⟨F1, ρ1, μ1, D', R1, S1, hA _ _ _ _ _ _ an s1, t1, fun ρ' μ' q F' H' σ' s => k ρ' μ' q F' H' σ' (s1.trans s), fun d μ' q F' H' v s => k2 d μ' q F' H' v (s1.trans s),
    fun ρ' μ' q F' H' σ' s => k3 ρ' μ' q F' H' σ' (s1.trans s), fun ρ' μ' q F' H' σ' s => k4 ρ' μ' q F' H' σ' (s1.trans s)⟩, k2, k3, k4⟩
theorem sas_one (h1 : SA An X st t) : SAs An X [st] t := pss_one h1
theorem sa_if (hA : Grows An) (hc : TA_ An X c tt) (ha : SAs An X ss t) (hb : SAs An X uu u) : SA An X (.If c ss uu pos) (dIfS tt t u) := weakS (ps_if hc ha hb) fun D σ H h => by
  obtain ⟨F, ρ, μ, D', R, S, an, t, k, k2, k3, k4⟩ := h
  refine ⟨F, ρ, μ, _, R, S, an, t, fun d μ1 t1 F1 H1 s1 R1 => ?_⟩
  cases d with
  | true => exact ⟨F1, ρ, μ1, D', R1, S.mono s1.ext, hA _ _ _ _ _ _ an s1, t1, fun ρ' μ' q F' H' σ' s => k ρ' μ' q F' H' σ' (s1.trans s), fun d μ' q F' H' v s => k2 d μ' q F' H' v (s1.trans s),
    fun ρ' μ' q F' H' σ' s => k3 ρ' μ' q F' H' σ' (s1.trans s), fun ρ' μ' q F' H' σ' s => k4 ρ' μ' q F' H' σ' (s1.trans s)⟩
  | false => exact ⟨F1, ρ, μ1, D', R1, S.mono s1.ext, hA _ _ _ _ _ _ an s1, t1, fun ρ' μ' q F' H' σ' s => k ρ' μ' q F' H' σ' (s1.trans s), fun d μ' q F' H' v s => k2 d μ' q F' H' v (s1.trans s),
    fun ρ' μ' q F' H' σ' s => k3 ρ' μ' q F' H' σ' (s1.trans s), fun ρ' μ' q F' H' σ' s => k4 ρ' μ' q F' H' σ' (s1.trans s)⟩
theorem sa_ret (he : EA An X e te) : SA An X (.Return (some e) pos) (dRet te) := weakS (ps_ret he) fun D σ H h => by
  obtain ⟨F, ρ, μ, D', R, S, an, t, _, k, _⟩ := h
  exact ⟨F, ρ, μ, _, R, S, an, t, k⟩
theorem sa_asg {g : DTG} (hA : Grows An) (he : EA An X e te) (hg : DG X tg g) (hs : swapsWithSole [tg] e pos.line X.env = pure false := by rfl) (hw : swappedStores [tg] e X.env = pure none := by rfl)
    (h1 : (assignEach [tg] X.env).map (·.2) = [assign tg X.env] := by rfl) : SA An X (.Assign [tg] e pos) (dAsg te g) := weakS (ps_asg he hg hs hw h1) fun D σ H h => by
  obtain ⟨F, ρ, μ, D', R, S, an, t, k, _⟩ := h
  exact ⟨F, ρ, μ, _, R, S, an, t, fun d μ1 t1 F1 H1 v s1 R1 r1 => ⟨F1, ρ, μ1, d, _, R1, S.mono s1.ext, r1, t1, fun ρ' μ' q F' H' σ' s => k ρ' μ' q F' H' σ' (s1.trans s)⟩⟩
theorem sa_for {wi : DTI} {g : DTG} (hA : Grows An) (hp : PassesOwn (model X.prog X.w) X.A X.env X.xe) (hc : X.calm = true) (hi : DI X tg iter wi) (hg : DG X tg g) (hb : SAs An X body t)
    (hs : ∀ x, foldedSetIterable iter X.env x = pure x := by intro _; rfl) : SA An X (.For tg iter body [] pos) (dFor wi g t) := weakS (ps_for hp hc hi hg hb hs) fun D σ H h => by
  obtain ⟨F0, ρ0, μ0, D', R0, S0, an, t, k, k2, k3, k4⟩ := h
  refine ⟨F0, ρ0, μ0, _, R0, S0, t, fun ds ok μ1 t1 F1 H1 J s1 R1 src => ?_⟩
  obtain ⟨W, w0, hok, turn, fin⟩ := t1
  refine ⟨fun i m σ' H' => i + m = ds.length ∧ ∃ F ρ μ, Stp F1 H1 μ1 F H' μ ∧ HReal X.K F H' μ ∧ Slots X.K F σ' ρ ∧ W i ρ μ, ⟨ds.length, by omega, F1, ρ0, μ1, Stp.refl _ _ _, R1, S0.mono s1.ext, w0⟩, ?_⟩
  rintro i m σ' H' ⟨him, F, ρ, μ, s, R, S, w⟩
  have hle : i ≤ ds.length := by omega
  by_cases hi : i < ds.length
  · refine .inr ⟨src.go i F H' μ s R (hok i ρ μ hle w) hi, fun σ2 H2 => ∃ F ρ μ, Stp F1 H1 μ1 F H2 μ ∧ HReal X.K F H2 μ ∧ Slots X.K F σ2 ρ ∧ W (i + 1) ρ μ, ?_, ?_⟩
    · rintro σ2 H2 ⟨F', ρ', μ', s', R', S', w'⟩
      exact ⟨ds.length - (i + 1), by omega, by omega, F', ρ', μ', s', R', S', w'⟩
    · intro x H2 y
      obtain ⟨F', s', R', r'⟩ := src.yld i F H' μ x H2 s R (hok i ρ μ hle w) y _ (List.getElem?_eq_getElem hi)
      refine ⟨F', ρ, μ, _, _, R', S.mono s'.ext, r', turn i _ ρ μ (List.getElem?_eq_getElem hi) w, fun ρ2 μ2 t2 F2 H3 σ2 s2 R2 S2 => ?_⟩
      refine ⟨F2, ρ2, μ2, _, R2, S2, hA _ _ _ _ _ _ an (s1.trans ((s.trans s').trans s2)), t2, ?_, ?_, ?_, ?_⟩
      · exact fun ρ' μ' q F'' H'' σ'' s'' R'' S'' => ⟨F'', ρ', μ', ((s.trans s').trans s2).trans s'', R'', S'', q⟩
      · exact fun d μ' q F'' H'' v s'' R'' r'' => k2 d μ' q F'' H'' v (s1.trans (((s.trans s').trans s2).trans s'')) R'' r''
      · exact fun ρ' μ' q F'' H'' σ'' s'' R'' S'' => k ρ' μ' q F'' H'' σ'' (s1.trans (((s.trans s').trans s2).trans s'')) R'' S''
      · exact fun ρ' μ' q F'' H'' σ'' s'' R'' S'' => ⟨F'', ρ', μ', ((s.trans s').trans s2).trans s'', R'', S'', q⟩
  · have e : i = ds.length := by omega
    subst e
    exact .inl ⟨src.stop F H' μ s R (hok _ ρ μ hle w), k ρ μ (fin ρ μ w) F H' σ' (s1.trans s) R S⟩
theorem aa_cons (hA : Grows An) (ha : EA An X e te) (hr : AA An X es ts) (hs : starEach (e :: es) X.env = (false, eval e X.env) :: starEach es X.env := by rfl) : AA An X (e :: es) (dCons te ts) :=
  weakA (pa_cons ha hr hs) fun σ H Q h => by
    obtain ⟨F, ρ, μ, Q', R, S, an, t, k⟩ := h
    refine ⟨F, ρ, μ, _, R, S, an, t, fun d1 μ1 t1 F1 H1 v1 s1 R1 r1 => ?_⟩
    exact ⟨F1, ρ, μ1, _, R1, S.mono s1.ext, hA _ _ _ _ _ _ an s1, t1, fun ds μ2 t2 F2 H2 vs s2 R2 r2 => k _ μ2 t2 F2 H2 _ (s1.trans s2) R2 (.cons (r1.mono s2.ext) r2)⟩
theorem aa_nil : AA An X [] dNil := aa da_nil
end
/-- C(e), about to be raised: the error is not known, its dict is -/
def tMkX (C : Addr) (f : Str) (te : TE) : L2.St → Hp → XK → Prop := fun σ H Q => te σ H fun y H1 => ∀ dx, H1 dx = none → Q (.ref C) (some dx) (upd H1 dx (.xd [(f, y)]))
section
variable {X : Cx} {x f q qual : Str} {st : Stmt} {k n : Nat} {e : Expr} {te : TE} {p pos : Pos}
theorem pmk_x {D : XDef X.K X.mg x f q qual st} (F : XIni X.prog X.w X.base D k) (hq : Quiet X.A) (hr : Room n X.A) (ha : PE X e te) (hk : k + 1 ≤ n := by omega) (hg : Gl X x := by rfl) (hdb : (x == ("__debug__" : Str)) = false := by decide)
    (he : starEach [e] X.env = (false, eval e X.env) :: starEach [] X.env := by rfl) : PMk X (.Call (.Name x p) [e] [] pos) (tMkX D.C f te) := by
  intro pins s σ H Q I h
  refine wpAny_Call_Name_kw (ld_glob I hg D.m ?_ hdb)
  refine PySem.W.callWith_K (h₀ := X.base) I.ok.mod.kin D.o.kC (thn ((pa_cons ha pa_nil he).run pos pins s σ H (fun vs H1 => match vs with | [y] => ∀ dx, H1 dx = none → Q (.ref D.C) (some dx) (upd H1 dx (.xd [(f, y)])) | _ => False) I h) fun us s1 z => ?_) he (by rfl)
  obtain ⟨vs, H1, I1, r1, q1⟩ := z
  match vs, us, r1, q1 with
  | [y], [u], .cons r0 .nil, q1 =>
    refine ⟨I1.kIn, ?_⟩
    have hr := hr.mono hk
    obtain ⟨nm, qn, N, bs, bm, sn, sub, ab, col, dd, k0, k1, k2, k3, k5, hC, hbm⟩ := D.o.cls
    obtain ⟨hp, g, dr, tk, os⟩ := s1
    have old : ∀ b o, hp.get? b = some o → ((hp.push (PySem.W.kdv_tup [u])).push (PySem.HandSPX.excO D.C hp.objs.size)).get? b = some o := fun b o e => Heap.get?_push_of_some _ (Heap.get?_push_of_some _ e)
    have new : ((hp.push (PySem.W.kdv_tup [u])).push (PySem.HandSPX.excO D.C hp.objs.size)).get? (hp.objs.size + 1) = some (PySem.HandSPX.excO D.C hp.objs.size) := by heap_get
    have na : H1 (hp.objs.size + 1) = none := I1.hok.fresh (Nat.le_succ _)
    have J := I1.laid (t' := tk) (a := hp.objs.size + 1) (o := exo (hp.objs.size + 1) D.C none) (h' := (hp.push (PySem.W.kdv_tup [u])).push (PySem.HandSPX.excO D.C hp.objs.size)) old (Nat.le_succ _) (exo_ok new)
    have want : spI D.C f [.ref (hp.objs.size + 1), y] (upd H1 (hp.objs.size + 1) (exo (hp.objs.size + 1) D.C none))
        (fun v H2 => v = .non ∧ ∃ dx, H1 dx = none ∧ dx ≠ hp.objs.size + 1 ∧ H2 = upd (upd (upd H1 (hp.objs.size + 1) (exo (hp.objs.size + 1) D.C none)) dx (exd dx [(f, y)])) (hp.objs.size + 1) (exo (hp.objs.size + 1) D.C (some dx))) E0 :=
      ⟨_, y, rfl, upd_same, fun dx n ne => ⟨rfl, dx, by rw [upd_ne ne] at n; exact n, ne, rfl⟩⟩
    have vals : Vals [V.ref (hp.objs.size + 1), y] [Value.ref (hp.objs.size + 1), u] := .cons rfl (.cons r0 .nil)
    have binds : BindsTo ⟨(hp.push (PySem.W.kdv_tup [u])).push (PySem.HandSPX.excO D.C hp.objs.size), g, dr, tk, os⟩ D.fd ⟨.ref (hp.objs.size + 1) :: [u], []⟩ ((["self", q] : List Str).zip [.ref (hp.objs.size + 1), u]) := D.b _ [_, _] J.kIn rfl
    have go := F.go (X.A.under (.builtin "type.__call__" ⟨.ref D.C :: [u], []⟩)) X.stack _ _ _ _ _ _ E0 (quiet_make hq D.C [u] []) (hr.make D.C [u] []) (J.env0.make D.C [u] []) binds vals want
    show wpAny _ _ (call (.ref D.C) [u]) _ _ _
    refine wpAny_call (PySem.HandSPX.call_own PySem.F.excBase_ValueError (fun Y => PySem.HandSPX.refsVE_contains Y bm hbm) (I1.kIn _ _ hC) (PySem.W.looks_findIn I1.kIn D.ini) (fun self => PySem.W.bind_fn I1.kIn self D.fn) (by show 1 ≤ sizeLine; decide)
      (codeAny_mono go fun r s' hq' => ?_))
    match r, hq' with
    | .error _, z => exact False.elim z
    | .ok .next, z => exact False.elim z
    | .ok .brk, z => exact False.elim z
    | .ok .cont, z => exact False.elim z
    | .ok (.ret w), z =>
      obtain ⟨v, H2, os2, bare2, un2, hok2, rv, ev, dx, nx, nex, eH⟩ := z
      subst ev
      obtain ⟨h2, g2, d2, t2, os'⟩ := s'
      have e1 : H2 (hp.objs.size + 1) = some (exo (hp.objs.size + 1) D.C (some dx)) := by rw [eH, upd_same]
      have e2 : H2 dx = some (exd dx [(f, y)]) := by rw [eH, upd_ne nex, upd_same]
      have e3 : upd (del H2 (hp.objs.size + 1)) dx (.xd [(f, y)]) = upd H1 dx (.xd [(f, y)]) := by
        funext b
        by_cases h1 : b = dx
        · rw [h1, upd_same, upd_same]
        · rw [upd_ne h1, upd_ne h1]
          by_cases h2 : b = hp.objs.size + 1
          · rw [h2, del_same, na]
          · rw [del_ne h2, eH, upd_ne h2, upd_ne h1, upd_ne h2]
      exact ⟨rv, mk_end (raises_own D.o.exC D.o.tyC) I1 (Nat.le_succ _) old un2 hok2 os2 bare2 e1 e2 nx (by rw [e3]; exact q1 dx nx)⟩
  | [], _, _, q1 => exact q1.elim
  | _ :: _ :: _, _, _, q1 => exact q1.elim
end
/-- where errors may leave: what is wished of them -/
structure Rz (An : HInv) (Ex : DXX) (X : Cx) : Prop where
  gr : Grows An
  tk : Takes X fun cls od _ H => EX X.K An Ex cls od H
theorem takes_mono {X : Cx} {W W' : WX} (t : Takes X W) (h : ∀ cls d σ H, W' cls d σ H → W cls d σ H) : Takes X W' := fun u s' z => t u s' (by
  obtain ⟨a, B, sI, pins, σ, H, cls, d, e1, e2, e3, e4, e5, e6, e7, e8, w⟩ := z
  exact ⟨a, B, sI, pins, σ, H, cls, d, e1, e2, e3, e4, e5, e6, e7, e8, h _ _ _ _ w⟩)
theorem Rz.mono {An : HInv} {Ex Ex' : DXX} {X : Cx} (R : Rz An Ex X) (h : ∀ x fs μ, Ex' x fs μ → Ex x fs μ) : Rz An Ex' X := ⟨R.gr, takes_mono R.tk fun cls d σ H z => by
  obtain ⟨F, μ, C, x, fs, e, a, r, c, o, q⟩ := z
  exact ⟨F, μ, C, x, fs, e, a, r, c, o, h _ _ _ q⟩⟩
abbrev dRaise (x f : Str) (Ex : DXX) (te : DTE) : DTS := fun _ ρ μ => te ρ μ fun d μ1 => Ex x [(f, d)] μ1
theorem passesX0 {X : Cx} : Passes (L2.CX X.prog X.w) X E0 := fun _ _ _ _ _ _ _ c => by
  obtain ⟨_, _, _, _, _, _, _, _, _, _, _, _, h⟩ := c
  exact h.elim
section
variable {An : HInv} {Ex : DXX} {X : Cx} {x f q qual : Str} {st : Stmt} {k n : Nat} {e : Expr} {es : List Expr} {te : DTE} {ta : DTA} {p pos cpos : Pos} {ps ks : List Str} {sp : DSpX}
theorem sa_raise {D : XDef X.K X.mg x f q qual st} (F : XIni X.prog X.w X.base D k) (hq : Quiet X.A) (hr : Room n X.A) (z : Rz An Ex X) (ha : EA An X e te) (hk : k + 1 ≤ n := by omega) (hg : Gl X x := by rfl) (hc : X.calm = true := by rfl) (hdb : (x == ("__debug__" : Str)) = false := by decide)
    (he : starEach [e] X.env = (false, eval e X.env) :: starEach [] X.env := by rfl) : SA An X (.Raise (some (.Call (.Name x p) [e] [] cpos)) none pos) (dRaise x f Ex te) := weakS (ps_raise hc z.tk (pmk_x F hq hr ha hk hg hdb he)) fun D' σ H h => by
  obtain ⟨F, ρ, μ, _, R, S, an, t, _⟩ := h
  refine ⟨F, ρ, μ, _, R, S, an, t, fun d μ1 t1 F1 H1 v s1 R1 r1 dx hdx => ?_⟩
  exact ⟨_, μ1, D.C, x, [(f, d)], rfl, z.gr _ _ _ _ _ _ an (s1.trans (Stp.newS R1 hdx)), R1.newS hdx, D.xk, .inr ⟨dx, [(f, v)], rfl, upd_same, rfl, RepL.one (r1.mono (Ext.new (R1.freeF hdx)))⟩, t1⟩
abbrev FnX (P : Program) (w : World) (base : Heap) {K : PySem.W.Frag} {mg : Str → Option Value} {x : Str} {st : Stmt} {ps : List Str} (D : Def K mg x st ps) (k : Nat) (sp : DSpX) : Prop := FnG P w K mg base (L2.CX P w) k D.f D.fd ps (LSpX K sp)
abbrev dCallX (sp : DSpX) (dvs : List SD) (Ex : DXX) (t : DTA) : DTE := fun ρ μ Q => t ρ μ fun ds μ1 => sp (ds ++ dvs) μ1 Q Ex
theorem LSpX_E {K : PySem.W.Frag} {F1 H1 : Hp} {μ1 : Mu} {E' : DXX} {E : XK} (gr : Grows An) (an : An F1 H1 μ1) (h : ∀ cls od H', EX K An E' cls od H' → E cls od H') : ∀ cls od H', EX K (Stp F1 H1 μ1) E' cls od H' → E cls od H' := fun _ _ _ z => h _ _ _ (z.mono fun _ _ _ s => gr _ _ _ _ _ _ an s)
theorem ea_call {dvs : List SD} {dvV : List V} {dv : List Value} {f : Addr} {fd : FuncData} (F : FnG X.prog X.w X.K X.mg X.base (L2.CX X.prog X.w) k f fd ps (LSpX X.K sp)) (hq : Quiet X.A) (hr : Room k X.A) (z : Rz An Ex X) (hg : Gl X x) (hm : X.mg x = some (.ref f)) (hk : PySem.W.keepIn X.K (.ref f) = true)
    (hb : Binds X.K fd ps dv) (hd : Vals dvV dv) (hp : Paired (fun d v => plain d = some v) dvs dvV) (ha : AA An X (e :: es) ta) (hdb : (x == ("__debug__" : Str)) = false := by decide) (he : starEach (e :: es) X.env = (false, eval e X.env) :: starEach es X.env := by rfl) (hpl : (backTo pos (starEach es X.env)).any (·.1) = false := by rfl) :
    EA An X (.Call (.Name x p) (e :: es) [] pos) (dCallX sp dvs Ex ta) := weakE (pe_g (E := EX X.K An Ex) F hq hr hg hm hk hb hd (passes_call z.tk fun _ _ _ _ h => h) ha hdb he hpl) fun σ H Q h => by
  obtain ⟨F, ρ, μ, Q', R, S, an, t, k⟩ := h
  refine ⟨F, ρ, μ, _, R, S, an, t, fun ds μ1 t1 F1 H1 vs s1 R1 r1 => ?_⟩
  exact ⟨F1, μ1, ds ++ dvs, Q', Ex, R1, r1.append (RepL.plain hp), t1, fun d μ' q F' H' v s R' r' => k d μ' q F' H' v (s1.trans s) R' r', LSpX_E z.gr (z.gr _ _ _ _ _ _ an s1) fun _ _ _ h => h⟩
theorem ea_def {D : Def X.K X.mg x st ps} (F : FnX X.prog X.w X.base D k sp) (hq : Quiet X.A) (hr : Room n X.A) (z : Rz An Ex X) (ha : AA An X (e :: es) ta) (hk : k ≤ n := by omega) (hg : Gl X x := by rfl)
    (hdb : (x == ("__debug__" : Str)) = false := by decide) (he : starEach (e :: es) X.env = (false, eval e X.env) :: starEach es X.env := by rfl) (hpl : (backTo pos (starEach es X.env)).any (·.1) = false := by rfl) :
    EA An X (.Call (.Name x p) (e :: es) [] pos) (dCallX sp [] Ex ta) := ea_call F hq (hr.mono hk) z hg D.m D.F.kp D.b .nil .nil ha hdb he hpl
abbrev calmSp (sp : DSpX) : DSp := fun ds μ Q _ => sp ds μ Q fun _ _ _ => False
end
section
variable {P : Program} {w : World} {K : PySem.W.Frag} {mg : Str → Option Value} {base : Heap}
/-- a def that may raise -/
theorem def_okR {x : Str} {st : Stmt} {N ps : List Str} {k : Nat} {sp : DSpX} {f : Addr} {fd : FuncData} (F : Fun K x x st f fd) (S : FnScope N ps (defScope st)) (t : DXX → DTS) (len : ∀ ds μ Q E, sp ds μ Q E → ds.length = ps.length)
    (walk : ∀ (cdv : Value) (A : Around) (outer : List Env) (s : Shared) (H : Hp) (E : XK) (Ex : DXX) (An : HInv), Quiet A → Room k (A.deeper (envOfC x (defScope st) s.heap.objs.size f cdv)) → Rz An Ex (cxOf (L2.CX P w) P w K mg base N x (defScope st) f cdv A outer s H E) →
      SAs An (cxOf (L2.CX P w) P w K mg base N x (defScope st) f cdv A outer s H E) (defBody st) (t Ex))
    (read : ∀ ds μ Q E, sp ds μ Q E → t E { nx := fun _ μ' => Q .non μ', rt := Q } (begin_ N ds) μ) : FnG P w K mg base (L2.CX P w) (k + 1) f fd ps (LSpX K sp) := by
  obtain ⟨oc, od, kV, doc, pm, an, cdv, ct, osl, rfl, lk, hcd⟩ := F.ex
  refine fnG_of lk hcd S (fun vs H Q E h => ?_) fun A outer s H vs Q E quiet room want => ?_
  · obtain ⟨F, μ, ds, Q', E', _, r, q, _⟩ := h
    rw [← r.length]; exact len ds μ Q' E' q
  · obtain ⟨F, μ, ds, Q', E', R, r, q, k1, k2⟩ := want
    refine ⟨_, walk cdv A outer s H E E' (Stp F H μ) quiet room ⟨grows_stp _ _ _, takes_mono (takes_of rfl rfl rfl rfl) fun cls d σ H' z => k2 cls d H' z⟩, F, begin_ N ds, μ, _, R, slots_begin r, Stp.refl _ _ _, read ds μ Q' E' q, ?_, k1, fun _ _ z => False.elim z, fun _ _ z => False.elim z⟩
    exact fun ρ' μ' q F' H' σ' s' R' _ => k1 .non μ' q F' H' .non s' R' .non
end
end DS
namespace DS
open PySem PySem.Spec PyProof.Rows L2 LamX
/-- what a function without parameters does, over data -/
abbrev DTH := Mu → (SD → Mu → Prop) → DXX → Prop
theorem HReal.madeC {K : PySem.W.Frag} {F H H2 : Hp} {μ : Mu} {P c' : Addr} {x q : Str} (R : HReal K F H μ) (hP : μ P = some (.tab P x q)) (m : MadeC H P q c' H2) : ∃ F2, HReal K F2 H2 μ ∧ Stp F H μ F2 H2 μ ∧ F2 c' = some (CodeO c' q) := by
  rcases m with ⟨rfl, ps, pos, h1, h2⟩ | ⟨ps, more, h1, h2, rfl, h3, h4⟩
  · obtain ⟨_, o, hPH, ro⟩ := R.mus P _ hP
    rw [h1] at hPH; cases hPH
    cases ro with
    | tab t1 t2 t3 =>
      obtain ⟨c, e1, e2⟩ := t3 pos _ h2
      cases e1
      exact ⟨F, R, Stp.refl _ _ _, e2⟩
  · have hF := R.freeF h2
    have hPF := (R.mus P _ hP).1
    have Pc : P ≠ c' := fun z => by rw [z, h2] at h1; cases h1
    have ex : Ext F (upd F c' (LamX.CodeO c' q)) := Ext.new hF
    refine ⟨upd F c' (LamX.CodeO c' q), ⟨fun a o e => ?_, fun a n e => ?_⟩, ⟨ex, fun a z1 z2 z3 => ?_⟩, upd_same⟩
    · by_cases ha : a = c'
      · subst ha; rw [upd_same] at e ⊢; exact e
      · rw [upd_ne ha] at e
        have aP : a ≠ P := fun z => by rw [z, hPF] at e; cases e
        rw [upd_ne ha, upd_ne aP]; exact R.sub a o e
    · obtain ⟨z, o, q1, r⟩ := R.mus a n e
      have ha : a ≠ c' := fun z => by rw [z, h2] at q1; cases q1
      refine ⟨by rw [upd_ne ha]; exact z, ?_⟩
      by_cases aP : a = P
      · subst aP
        rw [hP] at e; cases e
        rw [h1] at q1; cases q1
        refine ⟨_, by rw [upd_ne Pc, upd_same], ?_⟩
        cases r with
        | tab t1 t2 t3 =>
          refine .tab t1 h3 fun pos cv hc => ?_
          rcases h4 pos cv hc with hc | rfl
          · obtain ⟨c, e1, e2⟩ := t3 pos cv hc
            exact ⟨c, e1, ex.st _ _ rfl e2⟩
          · exact ⟨c', rfl, upd_same⟩
      · exact ⟨o, by rw [upd_ne ha, upd_ne aP]; exact q1, r.mono ex⟩
    · have ha : a ≠ c' := fun z => z1 (by rw [z]; exact h2)
      have aP : a ≠ P := fun z => by rw [z, hP] at z3; cases z3
      exact ⟨by rw [upd_ne ha, upd_ne aP], by rw [upd_ne ha]; exact z2, z3⟩
/-- the function's reading at the heap is th -/
def Lnk (K : PySem.W.Frag) (F H : Hp) (μ : Mu) (th : DTH) (tl : XK → Hp → VK → Prop) : Prop := ∀ (F1 H1 : Hp) (μ1 : Mu) (Q1 : VK) (Q1' : SD → Mu → Prop) (Ex : DXX), Stp F H μ F1 H1 μ1 → HReal K F1 H1 μ1 → th μ1 Q1' Ex →
  (∀ d μ', Q1' d μ' → ∀ F' H' v, Stp F1 H1 μ1 F' H' μ' → HReal K F' H' μ' → RepS K F' d v → Q1 v H') → tl (EX K (Stp F1 H1 μ1) Ex) H1 Q1
/-- what the def that got it makes of it -/
def TTd (K : PySem.W.Frag) (q : Str) (ttd : DTH → Mu → (SD → Mu → Prop) → Prop) : Addr → Addr → (XK → Hp → VK → Prop) → Hp → VK → Prop := fun _ c' tl H Q => ∃ F μ th Q', HReal K F H μ ∧ F c' = some (CodeO c' q) ∧ Lnk K F H μ th tl ∧ ttd th μ Q' ∧
  ∀ d μ', Q' d μ' → ∀ F' H' v, Stp F H μ F' H' μ' → HReal K F' H' μ' → RepS K F' d v → Q v H'
/-- in the def that got it: its parameter a, called -/
def AskOk (X : Cx) (An : HInv) (a : Str) (f : Addr) (th : DTH) : Prop := ∀ (W : WX) (pn : List (Addr × Obj)) (xe : Value → Shared → Prop) (p1 p2 : Pos), Takes (X.tr pn xe) W → PE (X.tr pn xe) (.Call (.Name a p1) [] [] p2) fun σ H Q =>
  ∃ F ρ μ Q' Ex, HReal X.K F H μ ∧ Slots X.K F σ ρ ∧ An F H μ ∧ ρ[0]? = some (some (.ref f)) ∧ th μ Q' Ex ∧
    (∀ d μ', Q' d μ' → ∀ F' H' v, Stp F H μ F' H' μ' → HReal X.K F' H' μ' → RepS X.K F' d v → Q v H') ∧ ∀ cls d H', EX X.K (Stp F H μ) Ex cls d H' → W cls d σ H'
theorem gives_d {X : Cx} {Ng : List Str} {x a q : Str} {sg : Scope} {g : Addr} {cdg : Value} {bg : List Stmt} {ttd : DTH → Mu → (SD → Mu → Prop) → Prop} (t : Addr → DTH → DTS)
    (walk : ∀ (s : Shared) (H : Hp) (f : Addr) (An : HInv) (th : DTH), Grows An → AskOk (cxOf C8.CX0 X.prog X.w X.K X.mg X.base Ng x sg g cdg X.A X.stack s H C8.E0).nox An a f th → SAs An (cxOf C8.CX0 X.prog X.w X.K X.mg X.base Ng x sg g cdg X.A X.stack s H C8.E0).nox bg (t f th))
    (read : ∀ f th μ Q, ttd th μ Q → t f th { nx := fun _ μ' => Q .non μ', rt := Q } (begin_ Ng [.ref f]) μ) : GivesS X Ng x sg g cdg bg a q (TTd X.K q ttd) := by
  intro f c' s H Q tl hcall hco h
  obtain ⟨F, μ, th, Q', R, hc', lnk, tt, k⟩ := h
  refine ⟨_, walk s H f (Stp F H μ) th (grows_stp _ _ _) (fun W pn xe p1 p2 tk => weakE (hcall W pn xe p1 p2 tk) fun σ HZ Q1 z => ?_), F, begin_ Ng [.ref f], μ, _, R, slots_begin (.cons (.ref f) .nil), Stp.refl _ _ _, read f th μ Q' tt, ?_, k, fun _ _ z => False.elim z, fun _ _ z => False.elim z⟩
  · obtain ⟨F1, ρ1, μ1, Q1', Ex, R1, S1, an, h0, th1, lift, hW⟩ := z
    obtain ⟨v, e1, e2⟩ := S1.at_ 0 _ h0
    cases e2
    exact ⟨e1, R1.sub _ _ (an.ext.st _ _ rfl hc'), EX X.K (Stp F1 HZ μ1) Ex, hW, lnk F1 HZ μ1 Q1 Q1' Ex an R1 th1 lift⟩
  · exact fun ρ' μ' q F' H' σ' s' R' _ => k .non μ' q F' H' .non s' R' .non
/-- x(lambda: body), in the def named y -/
def dLam (y q : Str) (ttd : DTH → Mu → (SD → Mu → Prop) → Prop) (tb : DXX → DTE) : DTE := fun ρ μ Q => ∃ P, μ P = some (.tab P y q) ∧ ttd (fun μ' Q' Ex => tb Ex ρ μ' Q') μ Q
section
variable {X : Cx} {ttd : DTH → Mu → (SD → Mu → Prop) → Prop} {tb : DXX → DTE} {x a y q : Str} {st : Stmt} {k n : Nat} {Ng : List Str} {params : Arguments} {body : Expr} {scope : Scope} {p lpos pos : Pos}
theorem de_lam {D : Def X.K X.mg x st [a]} (hbm : BM X.base X.mg) (hw : OwnC X y) (hquiet : Quiet X.A) (hr : Room n X.A) (hG : ∀ cdv : Value, GivesS X Ng x (defScope st) D.f cdv (defBody st) a q (TTd X.K q ttd)) (Sg : FnScope Ng [a] (defScope st)) (L : LamS X.env.scope scope)
    (hbody : ∀ (A : Around) (outer : List Env) (s : Shared) (H : Hp) (E : XK) (f c' : Addr) (An : HInv) (Ex : DXX), Quiet A → Room k (A.deeper (lamEnv X scope s.heap.objs.size f c')) → Rz An Ex (lamCx X A outer s H E scope f c') → EA An (lamCx X A outer s H E scope f c') body (tb Ex))
    (hk : k + 2 ≤ n := by omega) (hq : q = X.env.qual ++ "<lambda>" := by rfl) (hg : Gl X x := by rfl) (hNg : Ng[0]? = some a := by rfl) (hva : Vis (defScope st) a := by first | exact Or.inl rfl | exact Or.inr (Or.inl rfl) | exact Or.inr (Or.inr rfl))
    (hdef : defaultsOf params X.env = ([], []) := by rfl)
    (hbind : ∀ (q : Str) (cl : List (Str × Addr)) (pm cv ctv : Value), bindArgs (PySem.W.kla_fn "<lambda>" q params body scope cl pm cv ctv) ⟨[], []⟩ = pure [] := by intros; rfl)
    (hdb : (x == ("__debug__" : Str)) = false := by decide) (hd : (a == ("__debug__" : Str)) = false := by decide) (hcd : (a == ("__classdict__" : Str)) = false := by decide) :
    DE X (.Call (.Name x p) [.Lambda params body scope lpos] [] pos) (dLam y q ttd tb) := by
  obtain ⟨f, fd, DF, Dm, Db⟩ := D
  obtain ⟨oc, od, kV, doc, pm, an, cdv, ct, osl, rfl, lk, hcc⟩ := id DF.ex
  refine weakE (pe_lamcallS (TT := TTd X.K q ttd) (a := a) (k := k) (Ng := Ng) (t := fun E σ H Q => ∃ An Ex, Grows An ∧ (∀ cls od H', EX X.K An Ex cls od H' → E cls od H') ∧ LEA X.K An (tb Ex) σ H Q)
    hbm hw hq hg Dm DF.kp lk hcc Db Sg hNg hva (hG cdv) (hr.mono hk) L hdef hbind (fun A outer s H E f c' hgd hr2 => ⟨fun pins s' σ H' Q I z => ?_⟩) hdb hd hcd) fun σ H Q h => ?_
  · obtain ⟨An, Ex, gr, hE, h⟩ := z
    exact (hbody A outer s H E f c' An Ex (hgd.trans hquiet) hr2 ⟨gr, takes_mono (takes_of rfl rfl rfl rfl) fun cls d σ H z => hE cls d H z⟩).run pins s' σ H' Q I h
  · obtain ⟨F, ρ, μ, Q', R, S, ⟨P, hP, tt⟩, k⟩ := h
    obtain ⟨hPF, o, hPH, ro⟩ := R.mus P _ hP
    cases ro with
    | tab ta tt' tc =>
      refine ⟨P, _, ta, hPH, tt', fun pos cv hcv => ?_, fun f c' H1 made hf hco => ?_⟩
      · obtain ⟨c, e1, e2⟩ := tc pos cv hcv
        exact ⟨c, e1, R.sub _ _ e2⟩
      · obtain ⟨F2, R2, s2, hc'⟩ := R.madeC hP made
        refine ⟨F2, μ, _, Q', R2, hc', fun F1 H1' μ1 Q1 Q1' Ex s R1 th1 lift => ?_, tt, fun d μ' q F' H' v s R' r' => k d μ' q F' H' v (s2.trans s) R' r'⟩
        exact ⟨Stp F1 H1' μ1, Ex, grows_stp _ _ _, fun _ _ _ z => z, F1, ρ, μ1, Q1', R1, S.mono (s2.trans s).ext, Stp.refl _ _ _, th1, lift⟩
end
theorem rep_err {K : PySem.W.Frag} {F H : Hp} {μ : Mu} {x : Str} {C a : Addr} {od : Option Addr} {fs : List (Str × SD)} (R : HReal K F H μ) (c : XcK K x C (fs.map (·.1))) (r : XRepF K F od fs) (n : H a = none) : RepS K (upd F a (exq a C od)) (.exc x fs) (.ref a) := by
  have ex : Ext F (upd F a (exq a C od)) := Ext.new (R.freeF n)
  rcases r with ⟨rfl, rfl⟩ | ⟨d, vs, rfl, e, hm, rl⟩
  · exact .exc0 c upd_same
  · exact .exc c upd_same (ex.st _ _ rfl e) hm (rl.mono ex)
/-- try: slot k = a() / except .. as (slot i): slot j = the error -/
def dTryA (f : Addr) (th : DTH) (kx : Str → Option Bool) (k i j : Nat) : DTS := fun D ρ μ => (ρ[0]? = some (some (.ref f)) ∧ i < ρ.length) ∧ th μ (fun d μ1 => D.nx (ρ.set k (some d)) μ1) fun x fs μ1 => kx x = some true ∧
  D.nx (((ρ.set i (some (.exc x fs))).set j (some (.exc x fs))).set i none) μ1
section
variable {An : HInv} {X : Cx} {c a n v cn : Str} {cv : Value} {f : Addr} {th : DTH} {k i j : Nat} {kx : Str → Option Bool} {np p1 p2 p3 p4 p5 p6 p7 pos' pos : Pos}
theorem sa_try (hA : Grows An) (ask : AskOk X An a f th) (hs : X.stack = X.env :: X.outer) (hf : X.env.frame = some X.env.locals) (hex : X.ex = []) (hN : X.N.Nodup) (hc : Names X c cv)
    (hkx : ∀ x b C, kx x = some b → PySem.W.nsIn X.K mainGlobals x = some (some (.ref C)) → PySem.W.exmOne X.K (.ref C) cv = some b)
    (hi : X.N[i]? = some n) (hk : X.N[k]? = some v) (hj : X.N[j]? = some cn) (hln : X.env.kindOf n = some .local) (hlv : Loc X.env.scope v) (hlj : Loc X.env.scope cn) (hlvn : Vis X.env.scope n)
    (hfk : X.fn v = true ∨ X.env.scope.names.lookup v = some .local := by first | exact .inl rfl | exact .inr rfl) (hfj : X.fn cn = true ∨ X.env.scope.names.lookup cn = some .local := by first | exact .inl rfl | exact .inr rfl)
    (hsw : swapsWith (.Call (.Name a p1) [] [] p2) (some (.Name v p3)) p4.line X.env = pure false := by rfl) (hsw2 : swapsWith (.Name n p5) (some (.Name cn p6)) p7.line X.env = pure false := by rfl)
    (hnd : (n == ("__debug__" : Str)) = false := by decide) (hncd : (n == ("__classdict__" : Str)) = false := by decide) :
    SA An X (.Try [.Assign [.Name v p3] (.Call (.Name a p1) [] [] p2) p4] [.ExceptHandler (some (.Name c np)) (some n) [.Assign [.Name cn p6] (.Name n p5) p7] pos'] [] [] pos) (dTryA f th kx k i j) := by
  refine weakS (ps_try_trk (c := cv) (i := i) (Wout := fun _ _ _ _ => False) (ts := fun _ _ _ D σ H => tVar i σ H fun w H' => D.nx (σ.set j (some w)) H')
    (tb := fun W D σ H => ∃ F ρ μ Q' Ex, HReal X.K F H μ ∧ Slots X.K F σ ρ ∧ An F H μ ∧ ρ[0]? = some (some (.ref f)) ∧ th μ Q' Ex ∧
      (∀ d μ', Q' d μ' → ∀ F' H' w, Stp F H μ F' H' μ' → HReal X.K F' H' μ' → RepS X.K F' d w → D.nx (σ.set k (some w)) H') ∧ ∀ cls d H', EX X.K (Stp F H μ) Ex cls d H' → W cls d σ H')
    hs hf hex hN hi hln hc L2.takes0 (fun W pn xe tk _ => ?_) (fun ea oe cls d pn _ _ => ?_)) fun D σ H h => ?_
  · exact pss_one (ps_set (X := X.tr pn xe) hN hk hlv (ask W pn xe p1 p2 tk) hsw hfk)
  · exact pss_one (ps_set (X := X.suite ea ((ea, oe) :: pn)) hN hj hlj (pe_var (X := X.suite ea ((ea, oe) :: pn)) hi hlvn hnd hncd) hsw2 hfj)
  · obtain ⟨F, ρ, μ, D', R, S, an, ⟨⟨h0, hl⟩, t⟩, kn, _⟩ := h
    refine ⟨F, ρ, μ, _, _, R, S, an, h0, t, fun d μ' q F' H' w s R' r' => kn _ μ' q F' H' _ s R' ((S.mono s.ext).set k r'), fun cls od H' z => ?_⟩
    obtain ⟨F', μ', C, x, fs, rfl, s, R', xc, xr, e, q⟩ := z
    refine ⟨true, hkx x true C e xc.at_, fun _ => ⟨C, rfl, fun a' na => ?_⟩, fun z => by cases z⟩
    have SA' := Stp.newS R' (o := exq a' C od) na
    have RA := R'.newS (o := exq a' C od) na
    have rr := rep_err R' xc xr na
    refine ⟨.ref a', List.getElem?_set_self (by rw [S.len]; exact hl), ?_⟩
    exact kn _ μ' q _ _ _ (s.trans SA') RA ((((S.mono (s.trans SA').ext).set i rr).set j rr).setN i)
end
end DS
namespace DS
open PySem PySem.Spec PyProof.Rows L2
theorem exm_row {K : PySem.W.Frag} {D : Addr} {r : Str × Addr × List Value} (h : XRow K r) (hD : (PySem.W.clsIn K D).isSome = true) (tD : PySem.W.typeIn K (.ref D) = some (.type "type")) (sD : PySem.W.subIn K (.ref D) (.type "BaseException") = some true) : PySem.W.exmOne K (.ref r.2.1) (.ref D) = some (r.2.1 == D || r.2.2.contains (.ref D)) := by
  unfold PySem.W.exmOne
  rw [if_pos (by rw [sD]; rfl)]
  unfold PySem.W.kitCls
  dsimp only
  rw [hD, tD]
  show PySem.W.mroIn K r.2.1 (.ref D) = _
  rw [xrow_mro h, List.contains_cons]
  have : (Value.ref D == Value.ref r.2.1) = (r.2.1 == D) := by
    by_cases e : r.2.1 = D
    · rw [e]; simp
    · rw [beq_eq_false_iff_ne.mpr e, beq_eq_false_iff_ne]
      intro z
      exact e (Value.ref.inj z).symm
  rw [this]
theorem exm_ok {K : PySem.W.Frag} {D : Addr} {rows : List (Str × Addr × List Value)} {c : Str} (q : kitQ rows c D = true) (h : ∀ r ∈ rows, XRow K r) (hD : (PySem.W.clsIn K D).isSome = true) (tD : PySem.W.typeIn K (.ref D) = some (.type "type")) (sD : PySem.W.subIn K (.ref D) (.type "BaseException") = some true) (y : Str) (b : Bool) (C : Addr) (e : kX (rows.map (·.1)) c y = some b)
    (a : PySem.W.nsIn K mainGlobals y = some (some (.ref C))) : PySem.W.exmOne K (.ref C) (.ref D) = some b := by
  unfold kX at e
  split at e
  · rename_i hm
    obtain ⟨r, hr, rfl⟩ := List.mem_map.mp hm
    have hx := h r hr
    obtain rfl : r.2.1 = C := by
      have z := hx.1.symm.trans a
      cases z; rfl
    rw [exm_row hx hD tD sD]
    have z := List.all_eq_true.mp q r hr
    rw [beq_iff_eq.mp z, e]
  · cases e
end DS
namespace DS
end DS
namespace DS
open PySem PySem.Spec PyProof.Rows L2
def anyX : List (Str → Option Bool) → Str → Option Bool
  | [], _ => some false
  | k :: r, x => match k x with
    | some true => some true
    | some false => anyX r x
    | none => none
def KitsX (K : PySem.W.Frag) (kxs : List (Str → Option Bool)) (cs : List Addr) : Prop := ∀ y b C, anyX kxs y = some b → PySem.W.nsIn K mainGlobals y = some (some (.ref C)) → PySem.W.kitAny K (.ref C) (cs.map Value.ref) = some b
theorem KitsX.nil {K : PySem.W.Frag} : KitsX K [] [] := fun _ _ _ e _ => e
theorem KitsX.cons {K : PySem.W.Frag} {kx : Str → Option Bool} {kxs : List (Str → Option Bool)} {D : Addr} {cs : List Addr} (h : ∀ y b C, kx y = some b → PySem.W.nsIn K mainGlobals y = some (some (.ref C)) → PySem.W.kitOne K (.ref C) (.ref D) = some b) (r : KitsX K kxs cs) : KitsX K (kx :: kxs) (D :: cs) := fun y b C e n => by
  unfold anyX at e
  rw [List.map_cons]
  unfold PySem.W.kitAny
  cases q : kx y with
  | none => rw [q] at e; cases e
  | some v =>
    rw [q] at e
    rw [h y v C q n]
    cases v with
    | true => exact e
    | false => exact r y b C e n
def rXT (K : PySem.W.Frag) (cs : List Addr) : List V → Hp → VK → Prop := fun xs H Q => ∃ (a C tp : Addr) (od : Option Addr) (b : Bool) (x : Str) (fs : List Str), xs = [.ref a, .ref tp] ∧ H a = some (exq a C od) ∧ (∀ d, od = some d → ∃ vs, H d = some (.xd vs)) ∧ XcK K x C fs ∧ SqT K H tp (cs.map V.ref) ∧ PySem.W.kitAny K (.ref C) (cs.map Value.ref) = some b ∧ Q (.bl b) H
theorem vals_refs : ∀ {cs : List Addr} {its : List Value}, Vals (cs.map V.ref) its → its = cs.map Value.ref
  | [], _, .nil => rfl
  | _ :: _, _, .cons r t => by rw [vals_refs t]; cases r; rfl
section
variable {X : Cx} {cs : List Addr}
theorem call_xt : CallR X (.builtin "isinstance") (rXT X.K cs) := by
  intro pins s σ H xs us Q I r h
  obtain ⟨a, C, tp, od, b, x, fs, rfl, ea, ed, T, ht, e, q⟩ := h
  match us, r with
  | [_, _], .cons r0 (.cons r1 .nil) =>
    cases r0
    cases r1
    obtain ⟨⟨oe, vs, e1, ⟨z1, z2⟩, e3⟩, _, _⟩ := I.hok a _ ea
    have cls : (PySem.W.clsIn X.K C).isSome = true := by
      obtain ⟨cd, hc, _⟩ := PySem.W.any_some T.hd
      rw [hc]; rfl
    have no : PySem.W.notCls oe = true := by unfold PySem.W.notCls; rw [e3] <;> rfl
    have at_ : ∃ o : Option Obj, PySem.W.InstAt s.heap a oe C o := by
      cases q2 : od with
      | none => exact ⟨none, e1, z1, no, by rw [z2, q2]; exact True.intro⟩
      | some d =>
        obtain ⟨ws, hd⟩ := ed d q2
        have hx : ObjOk X.prog X.w H s.heap d (.xd ws) := I.hok d _ hd
        obtain ⟨mA, ⟨o, es, ep, ho, _⟩, _⟩ := hx
        exact ⟨some o, e1, z1, no, by rw [z2, q2]; exact ho⟩
    obtain ⟨o, J⟩ := at_
    obtain ⟨its, rv, ⟨⟨tc, td, tda, tsl⟩, th, tcl, n, tdt⟩, _⟩ := I.tuple ht
    simp only at tcl tdt
    subst tcl tdt
    obtain rfl := vals_refs rv
    exact PySem.W.kia_tup (PySem.W.kitx_exc cls T.ga T.gg T.sub T.cl T.sp T.tk T.mro) I.kIn J th e (fun z => nomatch z) fun tk => ⟨.bl b, H, I.kept (t' := tk) fun _ _ z => z, rfl, q⟩
end
def isQT (kxs : List (Str → Option Bool)) (Q : SD → Mu → Prop) : SD → Mu → Prop := fun d μ => match d with
  | .exc x _ => (match anyX kxs x with
    | some b => Q (.bl b) μ
    | none => False)
  | _ => False
abbrev dIsXT (kxs : List (Str → Option Bool)) (te : DTE) : DTE := fun ρ μ Q => te ρ μ (isQT kxs Q)
def tcs : List Addr → DTA
  | [] => dNil
  | c :: r => dCons (dC (.ref c)) (tcs r)
theorem tcs_eq : ∀ (cs : List Addr) (ρ : Rho) (μ : Mu) (Q : List SD → Mu → Prop), tcs cs ρ μ Q = Q (cs.map SD.ref) μ
  | [], _, _, _ => rfl
  | c :: r, ρ, μ, Q => by
    show tcs r ρ μ (fun xs μ2 => Q (.ref c :: xs) μ2) = _
    rw [tcs_eq r]; rfl
theorem repL_refs {K : PySem.W.Frag} {F : Hp} : ∀ {cs : List Addr} {vs : List V}, RepL K F (cs.map SD.ref) vs → vs = cs.map V.ref
  | [], _, .nil => rfl
  | _ :: _, _, .cons r t => by rw [repL_refs t]; cases r; rfl
theorem isxt_go {kxs : List (Str → Option Bool)} {cs : List Addr} {Q' : SD → Mu → Prop} {Q : VK} {K : PySem.W.Frag} {F H : Hp} {μ : Mu} (hk : KitsX K kxs cs) {d : SD} {w : V} {tp : Addr} (R : HReal K F H μ) (r1 : RepS K F d w) (ht : SqT K H tp (cs.map V.ref)) (t : isQT kxs Q' d μ)
    (k : ∀ d' μ', Q' d' μ' → ∀ F' H' v, Stp F H μ F' H' μ' → HReal K F' H' μ' → RepS K F' d' v → Q v H') : rXT K cs [w, .ref tp] H Q := by
  unfold isQT at t
  cases r1 with
  | exc0 T q =>
    simp only at t
    split at t
    · rename_i b e
      exact ⟨_, _, tp, none, b, _, [], rfl, R.sub _ _ q, fun _ z => (by cases z), T, ht, hk _ _ _ e T.at_, k _ _ t _ _ _ (Stp.refl _ _ _) R (.bl b)⟩
    · exact t.elim
  | exc T q q2 z r3 =>
    simp only at t
    split at t
    · rename_i b e
      exact ⟨_, _, tp, some _, b, _, _, rfl, R.sub _ _ q, fun d z => (by cases z; exact ⟨_, R.sub _ _ q2⟩), T, ht, hk _ _ _ e T.at_, k _ _ t _ _ _ (Stp.refl _ _ _) R (.bl b)⟩
    · exact t.elim
  | _ => exact t.elim
section
variable {X : Cx} {e : Expr} {es : List Expr} {te : DTE} {p pos tpos : Pos} {kxs : List (Str → Option Bool)} {cs : List Addr} {x1 : Nat}
theorem de_isXTup (ha : DE X e te) (hc : DA X es (tcs cs)) (hk : KitsX X.K kxs cs) (zI : X.mg "isinstance" = none) (hlen : cs.length ≤ sizeLine := by first | (show 1 ≤ 1000000000; decide) | decide) (hI : Gl X "isinstance" := by rfl)
    (he : starEach [e, .Tuple es x1 tpos] X.env = (false, eval e X.env) :: starEach [.Tuple es x1 tpos] X.env := by rfl) (he2 : starEach [.Tuple es x1 tpos] X.env = (false, eval (.Tuple es x1 tpos) X.env) :: starEach [] X.env := by rfl)
    (hpl : (backTo pos (starEach [.Tuple es x1 tpos] X.env)).any (·.1) = false := by rfl) : DE X (.Call (.Name "isinstance" p) [e, .Tuple es x1 tpos] [] pos) (dIsXT kxs te) :=
  weakE (pe_callB (call_xt (cs := cs)) hI zI bt_isinstance (da_cons ha (da_cons (de_tup hc) da_nil he2) he) (by decide) (by decide) he hpl) fun σ H Q h => by
    obtain ⟨F, ρ, μ, Q', R, S, t, k⟩ := h
    refine ⟨F, ρ, μ, fun ds μ1 => match ds with
      | [d, .tup ys] => ys = cs.map SD.ref ∧ isQT kxs Q' d μ1
      | _ => False, R, S, ?_, fun ds μ1 t1 F1 H1 vs s1 R1 r1 => ?_⟩
    · have mono : (fun (d : SD) (μ1 : Mu) => tcs cs ρ μ1 fun ys μ2 => ys.length ≤ sizeLine ∧ (ys = cs.map SD.ref ∧ isQT kxs Q' d μ2)) = isQT kxs Q' := by
        funext d μ1
        rw [tcs_eq]
        exact propext ⟨fun z => z.2.2, fun z => ⟨by rw [List.length_map]; exact hlen, rfl, z⟩⟩
      show te ρ μ (fun (d : SD) (μ1 : Mu) => tcs cs ρ μ1 fun ys μ2 => ys.length ≤ sizeLine ∧ (ys = cs.map SD.ref ∧ isQT kxs Q' d μ2))
      rw [mono]
      exact t
    · match ds, vs, r1, t1 with
      | [d, .tup ys], [w, w'], .cons ra (.cons rb .nil), t2 =>
        obtain ⟨rfl, t3⟩ := (show ys = cs.map SD.ref ∧ isQT kxs Q' d μ1 from t2)
        cases rb with
        | tup hq rq =>
          obtain rfl := repL_refs rq
          exact isxt_go hk R1 ra (R1.ext.sqT hq) t3 fun d' μ' q F' H' v' s R' r' => k d' μ' q F' H' v' (s1.trans s) R' r'
end
end DS
namespace DS
end DS
namespace DS
open PySem PySem.Spec PyProof.Rows L2
mutual
/-- the value shows as the datum; dicts among it stand at no place of the machine's own -/
inductive Shv (h : Heap) : Value → PyData → Prop
  | non : Shv h .none .none
  | bl (b : Bool) : Shv h (.bool b) (.bool b)
  | int (i : Int) (t : Tok) : Shv h (.int i t) (.int i)
  | str (x : Str) (t : Tok) : Shv h (.str x t) (.str x)
  | lst {a : Addr} {o : Obj} {vs : Array Value} {n : Nat} {xs : List PyData} : h.get? a = some o → o.cls = .type "list" → o.data = .seq vs n → ShvL h vs.toList xs → Shv h (.ref a) (.list xs)
  | tup {a : Addr} {o : Obj} {vs : Array Value} {n : Nat} {xs : List PyData} : h.get? a = some o → o.cls = .type "tuple" → o.data = .seq vs n → ShvL h vs.toList xs → Shv h (.ref a) (.tuple xs)
  | dic {a : Addr} {o : Obj} {es : Array DictEntry} {n : Nat} {kvs : List (PyData × PyData)} : (a == sysModules) = false → h.get? a = some o → o.cls = .type "dict" → o.data = .dict es n → ShvL h (es.toList.map (·.key)) (kvs.map (·.1)) → ShvL h (es.toList.map (·.val)) (kvs.map (·.2)) → Shv h (.ref a) (.dict kvs)
inductive ShvL (h : Heap) : List Value → List PyData → Prop
  | nil : ShvL h [] []
  | cons {v : Value} {vs : List Value} {d : PyData} {ds : List PyData} : Shv h v d → ShvL h vs ds → ShvL h (v :: vs) (d :: ds)
end
mutual
theorem Shv.reads {h : Heap} : ∀ {v : Value} {d : PyData}, Shv h v d → ∃ as, Reads h v d as
  | _, _, .non => ⟨_, .none⟩
  | _, _, .bl b => ⟨_, .bool b⟩
  | _, _, .int i t => ⟨_, .int i t⟩
  | _, _, .str x t => ⟨_, .str x t⟩
  | _, _, .lst a b c r => let ⟨_, q⟩ := ShvL.reads r; ⟨_, .list a b c q⟩
  | _, _, .tup a b c r => let ⟨_, q⟩ := ShvL.reads r; ⟨_, .tuple a b c q⟩
  | _, _, .dic _ a b c r1 r2 => let ⟨_, q1⟩ := ShvL.reads r1; let ⟨_, q2⟩ := ShvL.reads r2; ⟨_, .dict a b c q1 q2⟩
theorem ShvL.reads {h : Heap} : ∀ {vs : List Value} {ds : List PyData}, ShvL h vs ds → ∃ as, ReadsAll h vs ds as
  | _, _, .nil => ⟨_, .nil⟩
  | _, _, .cons h r => let ⟨_, p⟩ := Shv.reads h; let ⟨_, q⟩ := ShvL.reads r; ⟨_, .cons p q⟩
end
section
variable {prog : Program} {w : World} {h₀ : Heap}
mutual
theorem Shv.K : ∀ {v : Value} {d : PyData}, Shv h₀ v d → d.showable = true → d.shown.length ≤ sizeLine → ∃ bs, ReadAtMost h₀ d.depth bs ∧ ReprK prog w bs h₀ d.depth v d.shown
  | _, _, .non, hs, hz => ReprK.of_reads Reads.none hs (fun z => by simp [PyData.hasDict] at z) hz
  | _, _, .bl b, hs, hz => ReprK.of_reads (Reads.bool b) hs (fun z => by simp [PyData.hasDict] at z) hz
  | _, _, .int i t, hs, hz => ReprK.of_reads (Reads.int i t) hs (fun z => by simp [PyData.hasDict] at z) hz
  | _, _, .str x t, hs, hz => ReprK.of_reads (Reads.str x t) hs (fun z => by simp [PyData.hasDict] at z) hz
  | _, _, .lst (a := a) (vs := vs) (xs := xs) h1 h2 h3 h4, hs, hz => by
    have fits : (listText (PyData.shownAll xs)).length ≤ sizeLine := by simpa only [PyData.shown] using hz
    obtain ⟨bs, hb, hk⟩ := ShvL.K h4 (by simpa [PyData.showable] using hs) fun t ht => Nat.le_trans (listText_mem_le ht) fits
    obtain ⟨as, q⟩ := ShvL.reads h4
    have r : Reads h₀ (.ref a) (.list xs) (a :: as) := .list h1 h2 h3 q
    have apart : a ∉ bs := not_mem_of_deeper r (by simp only [PyData.depth]; omega) hb
    refine ⟨a :: bs, ReadAtMost.cons r (by simp only [PyData.depth]; omega) hb, ?_⟩
    simp only [PyData.depth, PyData.shown]
    obtain ⟨l⟩ := vs
    cases l with
    | nil =>
      have e : ShvL h₀ [] xs := h4
      cases e
      simp only [PyData.shownAll, listText_nil]
      exact ReprK.listEmpty h1 h2 h3
    | cons x l => exact ReprK.list h1 h2 h3 apart (by simpa using hk.length_eq) fun i y e => hk.item i y (by simpa using e)
  | _, _, .tup (a := a) (xs := xs) h1 h2 h3 h4, hs, hz => by
    have fits : (tupleText (PyData.shownAll xs)).length ≤ sizeLine := by simpa only [PyData.shown] using hz
    obtain ⟨bs, hb, hk⟩ := ShvL.K h4 (by simpa [PyData.showable] using hs) fun t ht => Nat.le_trans (tupleText_mem_le ht) fits
    obtain ⟨as, q⟩ := ShvL.reads h4
    have r : Reads h₀ (.ref a) (.tuple xs) as := .tuple h1 h2 h3 q
    have apart : a ∉ bs := not_mem_of_deeper r (by simp only [PyData.depth]; omega) hb
    refine ⟨a :: bs, ReadAtMost.cons r (by simp only [PyData.depth]; omega) hb, ?_⟩
    simp only [PyData.depth, PyData.shown]
    exact ReprK.tuple h1 h2 h3 apart hk
  | _, _, .dic (a := a) (es := es) (kvs := kvs) h0 h1 h2 h3 h4 h5, hs, hz => by
    have fits : (dictText (PyData.shownKv kvs)).length ≤ sizeLine := by simpa only [PyData.shown] using hz
    obtain ⟨s1, s2⟩ := PyData.showableKv_split kvs (by simpa [PyData.showable] using hs)
    obtain ⟨b1, hb1, k1⟩ := ShvL.K h4 s1 fun t ht => let ⟨p, hp, hl⟩ := PyData.shownKv_key_le kvs t ht; Nat.le_trans hl (Nat.le_trans (dictText_mem_le hp) fits)
    obtain ⟨b2, hb2, k2⟩ := ShvL.K h5 s2 fun t ht => let ⟨p, hp, hl⟩ := PyData.shownKv_val_le kvs t ht; Nat.le_trans hl (Nat.le_trans (dictText_mem_le hp) fits)
    obtain ⟨as, q⟩ := ShvL.reads h4
    obtain ⟨as2, q2⟩ := ShvL.reads h5
    have r : Reads h₀ (.ref a) (.dict kvs) _ := .dict h1 h2 h3 q q2
    have both : ReadAtMost h₀ (PyData.depthKv kvs) (b1 ++ b2) := (hb1.mono (PyData.depthAll_keys_le kvs)).append (hb2.mono (PyData.depthAll_vals_le kvs))
    have apart : a ∉ b1 ++ b2 := not_mem_of_deeper r (by simp only [PyData.depth]; omega) both
    refine ⟨a :: (b1 ++ b2), ReadAtMost.cons r (by simp only [PyData.depth]; omega) both, ?_⟩
    simp only [PyData.depth, PyData.shown, PyData.shownKv_eq]
    exact ReprK.dict h1 h2 h3 h0 apart (ReprEntriesK.of_two es.toList _ _ (k1.more_le (fun b z => List.mem_append_left b2 z) (PyData.depthAll_keys_le kvs)) (k2.more_le (fun b z => List.mem_append_right b1 z) (PyData.depthAll_vals_le kvs)))
theorem ShvL.K : ∀ {vs : List Value} {ds : List PyData}, ShvL h₀ vs ds → PyData.showableAll ds = true → (∀ t ∈ PyData.shownAll ds, t.length ≤ sizeLine) →
    ∃ bs, ReadAtMost h₀ (PyData.depthAll ds) bs ∧ ReprAllK prog w bs h₀ (PyData.depthAll ds) vs (PyData.shownAll ds)
  | _, _, .nil, _, _ => ⟨[], (fun _ h => nomatch h), by simp only [PyData.shownAll]; exact .nil⟩
  | _, _, .cons (d := d) (ds := ds) r rs, hs, hz => by
    have both : d.showable = true ∧ PyData.showableAll ds = true := by simpa [PyData.showableAll] using hs
    obtain ⟨b1, hb1, k1⟩ := Shv.K r both.1 (hz _ (by simp only [PyData.shownAll]; exact List.mem_cons_self ..))
    obtain ⟨b2, hb2, k2⟩ := ShvL.K rs both.2 fun t ht => hz t (by simp only [PyData.shownAll]; exact List.mem_cons_of_mem _ ht)
    refine ⟨b1 ++ b2, ?_, ?_⟩
    · simp only [PyData.depthAll]
      exact (hb1.mono (Nat.le_max_left _ _)).append (hb2.mono (Nat.le_max_right _ _))
    · simp only [PyData.depthAll, PyData.shownAll]
      exact .cons ((k1.more fun b hb => List.mem_append_left b2 hb).level_le (Nat.le_max_left _ _)) (k2.more_le (fun b hb => List.mem_append_right b1 hb) (Nat.le_max_right _ _))
end
theorem Shv.by {a : Addr} {d : PyData} (r : Shv h₀ (.ref a) d) (hs : d.showable = true) (hz : d.shown.length ≤ sizeLine) : ∃ T idr, ShowsBy prog w h₀ a d T idr := by
  cases r with
  | lst h1 h2 h3 h4 =>
    rename_i o vs n xs
    have fits : (listText (PyData.shownAll xs)).length ≤ sizeLine := by simpa only [PyData.shown] using hz
    obtain ⟨bs, hb, hk⟩ := ShvL.K (prog := prog) (w := w) h4 (by simpa [PyData.showable] using hs) fun t ht => Nat.le_trans (listText_mem_le ht) fits
    obtain ⟨as, q⟩ := ShvL.reads h4
    have apart : a ∉ bs := not_mem_of_deeper (.list h1 h2 h3 q) (by simp only [PyData.depth]; omega) hb
    refine ⟨"list", "list.__repr__", F.slot_list_repr.toG, F.slot_list_str, F.slot_list_format, fun s keep => ⟨o, keep _ _ h1, h2⟩, fun A E s Q hg hu keep hQ => ?_⟩
    simp only [PyData.depth] at hu
    simp only [PyData.shown] at hQ
    obtain ⟨l⟩ := vs
    cases l with
    | nil =>
      have e : ShvL h₀ [] xs := h4
      cases e
      simp only [PyData.shownAll, listText_nil] at hQ
      exact call_list_repr_empty ⟨o, keep _ _ h1, h2⟩ (keep _ _ h1) h3 (hQ s.heap _ _ fun _ _ e => e)
    | cons x l => exact call_list_reprK h1 h2 h3 apart (by simpa using hk.length_eq) (fun i y e => hk.item i y (by simpa using e)) hg (fun b _ => Clear.nil b) hu keep hQ fits
  | tup h1 h2 h3 h4 =>
    rename_i o vs n xs
    have fits : (tupleText (PyData.shownAll xs)).length ≤ sizeLine := by simpa only [PyData.shown] using hz
    obtain ⟨bs, hb, hk⟩ := ShvL.K (prog := prog) (w := w) h4 (by simpa [PyData.showable] using hs) fun t ht => Nat.le_trans (tupleText_mem_le ht) fits
    obtain ⟨as, q⟩ := ShvL.reads h4
    have apart : a ∉ bs := not_mem_of_deeper (.tuple h1 h2 h3 q) (by simp only [PyData.depth]; omega) hb
    refine ⟨"tuple", "tuple.__repr__", F.slot_tuple_repr, F.slot_tuple_str, F.slot_tuple_format, fun s keep => ⟨o, keep _ _ h1, h2⟩, fun A E s Q hg hu keep hQ => ?_⟩
    simp only [PyData.depth] at hu
    simp only [PyData.shown] at hQ
    exact call_tuple_reprK h1 h2 h3 apart hk hg (fun b _ => Clear.nil b) hu keep hQ fits
  | dic h0 h1 h2 h3 h4 h5 =>
    rename_i o es n kvs
    have fits : (dictText (PyData.shownKv kvs)).length ≤ sizeLine := by simpa only [PyData.shown] using hz
    obtain ⟨s1, s2⟩ := PyData.showableKv_split kvs (by simpa [PyData.showable] using hs)
    obtain ⟨b1, hb1, k1⟩ := ShvL.K (prog := prog) (w := w) h4 s1 fun t ht => let ⟨p, hp, hl⟩ := PyData.shownKv_key_le kvs t ht; Nat.le_trans hl (Nat.le_trans (dictText_mem_le hp) fits)
    obtain ⟨b2, hb2, k2⟩ := ShvL.K (prog := prog) (w := w) h5 s2 fun t ht => let ⟨p, hp, hl⟩ := PyData.shownKv_val_le kvs t ht; Nat.le_trans hl (Nat.le_trans (dictText_mem_le hp) fits)
    obtain ⟨as, q⟩ := ShvL.reads h4
    obtain ⟨as2, q2⟩ := ShvL.reads h5
    have r : Reads h₀ (.ref a) (.dict kvs) _ := .dict h1 h2 h3 q q2
    have both : ReadAtMost h₀ (PyData.depthKv kvs) (b1 ++ b2) := (hb1.mono (PyData.depthAll_keys_le kvs)).append (hb2.mono (PyData.depthAll_vals_le kvs))
    have apart : a ∉ b1 ++ b2 := not_mem_of_deeper r (by simp only [PyData.depth]; omega) both
    refine ⟨"dict", "dict.__repr__", F.slot_dict_repr, F.slot_dict_str, F.slot_dict_format, fun s keep => ⟨o, keep _ _ h1, h2⟩, fun A E s Q hg hu keep hQ => ?_⟩
    simp only [PyData.depth] at hu
    simp only [PyData.shown, PyData.shownKv_eq] at hQ
    exact call_dict_reprK h1 h2 h3 h0 apart (ReprEntriesK.of_two es.toList _ _ (k1.more_le (fun b z => List.mem_append_left b2 z) (PyData.depthAll_keys_le kvs)) (k2.more_le (fun b z => List.mem_append_right b1 z) (PyData.depthAll_vals_le kvs))) hg (fun b _ => Clear.nil b) hu keep hQ (by rw [← PyData.shownKv_eq]; exact fits)
end
/-- a key as a datum -/
def pyK : Key → PyData
  | .inl i => .int i
  | .inr x => .str x
mutual
inductive Dv (K : PySem.W.Frag) (H : Hp) : V → PyData → Prop
  | non : Dv K H .non .none
  | bl (b : Bool) : Dv K H (.bl b) (.bool b)
  | int (i : Int) : Dv K H (.int i) (.int i)
  | str (x : Str) : Dv K H (.str x) (.str x)
  | lst {a : Addr} {xs : List V} {ds : List PyData} : SqL K H a xs → DvL K H xs ds → Dv K H (.ref a) (.list ds)
  | tup {a : Addr} {xs : List V} {ds : List PyData} : SqT K H a xs → DvL K H xs ds → Dv K H (.ref a) (.tuple ds)
  | dic {a : Addr} {kvs : List (Key × V)} {ps : List (PyData × PyData)} : Rd H a (.dK kvs) → ps.map (·.1) = kvs.map (fun p => pyK p.1) → DvL K H (kvs.map (·.2)) (ps.map (·.2)) → Dv K H (.ref a) (.dict ps)
inductive DvL (K : PySem.W.Frag) (H : Hp) : List V → List PyData → Prop
  | nil : DvL K H [] []
  | cons {v : V} {vs : List V} {d : PyData} {ds : List PyData} : Dv K H v d → DvL K H vs ds → DvL K H (v :: vs) (d :: ds)
end
theorem keys_shv {h : Heap} {P : Program} {w : World} : ∀ {es : List DictEntry} {kvs : List (Key × V)} {vs : List (Key × Value)}, KV kvs vs → Pairs (mixKind P w) es vs → ShvL h (es.map (·.key)) (kvs.map fun p => pyK p.1) ∧ Vals (kvs.map (·.2)) (es.map (·.val))
  | _, _, _, .nil, .nil => ⟨.nil, .nil⟩
  | _, _, _, .cons r rs, .cons q1 q2 qs => by
    obtain ⟨a, b⟩ := keys_shv (h := h) rs qs
    obtain ⟨r1, r2⟩ := r
    refine ⟨.cons ?_ a, .cons (by dsimp only; rw [q2]; exact r2) b⟩
    dsimp only
    rw [r1]
    rcases keyIs_shape q1 with ⟨i, t, e1, e2⟩ | ⟨x, t, e1, e2⟩
    · rw [e1, e2]; exact .int i t
    · rw [e1, e2]; exact .str x t
section
variable {X : Cx} {K : PySem.W.Frag} {pins : List (Addr × Obj)} {σ : L2.St} {H : Hp} {s : Shared}
mutual
theorem Dv.shw (I : Inv X pins σ H s) : ∀ {v : V} {d : PyData} {u : Value}, Dv X.K H v d → RelV v u → Shv s.heap u d
  | _, _, u, .non, r => by cases r; exact .non
  | _, _, u, .bl b, r => by cases r; exact .bl b
  | _, _, u, .int i, r => by obtain ⟨t, rfl⟩ := r; exact .int i t
  | _, _, u, .str x, r => by obtain ⟨t, rfl⟩ := r; exact .str x t
  | _, _, u, .lst hs ha, r => by
    cases r
    obtain ⟨its, rv, ⟨o, n, ho, hc, _, hd⟩, _⟩ := I.list hs
    exact .lst ho hc hd (DvL.shw I ha rv)
  | _, _, u, .tup hs ha, r => by
    cases r
    obtain ⟨its, rv, ⟨o, ho, hc, n, hd⟩, _⟩ := I.tuple hs
    exact .tup ho hc hd (DvL.shw I ha rv)
  | _, _, u, .dic e hk hv, r => by
    cases r
    obtain ⟨_, h0, vs, rel, o, es, ep, ho, hex, hd, _, hp, _⟩ := dk_rd I.hok e
    obtain ⟨a, b⟩ := keys_shv (h := s.heap) rel hp
    exact .dic h0 ho hex.1 hd (by rw [hk]; exact a) (DvL.shw I hv b)
theorem DvL.shw (I : Inv X pins σ H s) : ∀ {vs : List V} {ds : List PyData} {us : List Value}, DvL X.K H vs ds → Vals vs us → ShvL s.heap us ds
  | _, _, _, .nil, .nil => .nil
  | _, _, _, .cons h r, .cons q t => .cons (Dv.shw I h q) (DvL.shw I r t)
end
def rReprV (K : PySem.W.Frag) : List V → Hp → VK → Prop := fun xs H Q => ∃ x d, xs = [x] ∧ Dv K H x d ∧ (PyData.showable d = true ∧ d.shown.length ≤ sizeLine ∧ d.depth ≤ 64) ∧ Q (.str d.shown) H
theorem cr_reprV (hq : Quiet X.A) (hu : X.A.units + 66 < cLine) : CallR X (.builtin "repr") (rReprV X.K) := by
  intro pins s σ H xs us Q I r h
  obtain ⟨x, d, rfl, hd, ⟨h1, h2, h3⟩, q⟩ := h
  obtain ⟨u, rfl, rx⟩ := vals1 r
  have far : ∀ a, u = .ref a → wpAny (model X.prog X.w) X.A (call (.builtin "repr") [u]) (EP X pins σ Q) X.xe s := fun a e => by
    subst e
    obtain ⟨T, idr, S⟩ := Shv.by (prog := X.prog) (w := X.w) (Dv.shw I hd rx) h1 h2
    have keep : ∀ b o, s.heap.get? b = some o → s.heap.get? b = some o := fun _ _ e => e
    refine call_repr_slot (by omega) (S.typeIs s keep) S.slotRepr (S.call X.A.in1 X.xe s _ hq (by show X.A.units + 1 + d.depth < cLine; omega) keep fun h' t tk hk => ⟨_, _, rfl, ?_⟩)
    exact ⟨.str _, H, I.kept (h' := h') (t' := tk) hk, ⟨_, rfl⟩, q⟩
  cases hd with
  | non => obtain rfl := rx; exact P.repr_of_none ⟨.str _, H, I.tok _, ⟨_, rfl⟩, q⟩
  | bl b => obtain rfl := rx; exact P.repr_of_bool ⟨.str _, H, I.tok _, ⟨_, rfl⟩, q⟩
  | int i =>
    obtain ⟨t, rfl⟩ := rx
    exact P.repr_of_int (of_decide_eq_true (by simpa [PyData.showable] using h1)) ⟨.str _, H, I.tok _, ⟨_, rfl⟩, q⟩
  | str z =>
    obtain ⟨t, rfl⟩ := rx
    exact P.repr_of_str (hsz := h2) ⟨.str _, H, I.tok _, ⟨_, rfl⟩, q⟩
  | lst hl hr => exact far _ rx
  | tup hl hr => exact far _ rx
  | dic e _ _ => exact far _ rx
end
mutual
def pvS : SD → Option PyData
  | .non => some .none
  | .bl b => some (.bool b)
  | .int i => some (.int i)
  | .str s => some (.str s)
  | .ref _ => none
  | .ty _ => none
  | .exc _ _ => none
  | .ptp xs => match pvL xs with
    | some ds => some (.tuple ds)
    | none => none
  | .tup xs => match pvL xs with
    | some ds => some (.tuple ds)
    | none => none
  | .lst xs => match pvL xs with
    | some ds => some (.list ds)
    | none => none
  | .rol xs => match pvL xs with
    | some ds => some (.list ds)
    | none => none
  | .dic kvs => match pvK kvs with
    | some ds => some (.dict ds)
    | none => none
def pvL : List SD → Option (List PyData)
  | [] => some []
  | d :: r => match pvS d, pvL r with
    | some x, some y => some (x :: y)
    | _, _ => none
def pvK : List (Key × SD) → Option (List (PyData × PyData))
  | [] => some []
  | (k, d) :: r => match pvS d, pvK r with
    | some x, some y => some ((pyK k, x) :: y)
    | _, _ => none
end
theorem pvK_split : ∀ {kvs : List (Key × SD)} {ps : List (PyData × PyData)}, pvK kvs = some ps → ps.map (·.1) = kvs.map (fun p => pyK p.1) ∧ pvL (kvs.map (·.2)) = some (ps.map (·.2))
  | [], _, e => by unfold pvK at e; cases e; exact ⟨rfl, by unfold pvL; rfl⟩
  | (k, d) :: r, _, e => by
    unfold pvK at e
    cases q : pvS d with
    | none => rw [q] at e; cases e
    | some x => cases q2 : pvK r with
      | none => rw [q, q2] at e; cases e
      | some y =>
        rw [q, q2] at e; cases e
        obtain ⟨a, b⟩ := pvK_split q2
        refine ⟨by rw [List.map_cons, List.map_cons, a], ?_⟩
        rw [List.map_cons, List.map_cons]
        unfold pvL
        rw [q, b]
def pv (μ : Mu) : SD → Option PyData
  | .ref a => match μ a with
    | some (.lst xs) => match pvL xs with
      | some ds => some (.list ds)
      | none => none
    | _ => none
  | d => pvS d
section
variable {K : PySem.W.Frag} {F H : Hp} {μ : Mu}
mutual
theorem RepS.dv (ex : Ext F H) (sub : ∀ a o, F a = some o → H a = some o) : ∀ {d : SD} {v : V} {p : PyData}, RepS K F d v → pvS d = some p → Dv K H v p
  | _, _, _, .non, e => by unfold pvS at e; cases e; exact .non
  | _, _, _, .bl b, e => by unfold pvS at e; cases e; exact .bl b
  | _, _, _, .int b, e => by unfold pvS at e; cases e; exact .int b
  | _, _, _, .str b, e => by unfold pvS at e; cases e; exact .str b
  | _, _, _, .ref _, e => by unfold pvS at e; cases e
  | _, _, _, .ty _, e => by unfold pvS at e; cases e
  | .tup ds, _, _, .tup h r, e => by
    unfold pvS at e
    cases q : pvL ds with
    | none => rw [q] at e; cases e
    | some ps => rw [q] at e; cases e; exact .tup (ex.sqT h) (RepL.dv ex sub r q)
  | .ptp ds, _, _, .ptp h h2 r, e => by
    unfold pvS at e
    cases q : pvL ds with
    | none => rw [q] at e; cases e
    | some ps => rw [q] at e; cases e; exact .tup (ex.sqT (.inl (.inr ⟨_, h⟩))) (RepL.dv ex sub r q)
  | .lst ds, _, _, .lst h r, e => by
    unfold pvS at e
    cases q : pvL ds with
    | none => rw [q] at e; cases e
    | some ps => rw [q] at e; cases e; exact .lst (SqL.of (sub _ _ h)) (RepL.dv ex sub r q)
  | .rol ds, _, _, .rol h r, e => by
    unfold pvS at e
    cases q : pvL ds with
    | none => rw [q] at e; cases e
    | some ps => rw [q] at e; cases e; exact .lst (ex.sqL h) (RepL.dv ex sub r q)
  | .dic kvs, _, _, .dic (vs := vs) h q r, e => by
    unfold pvS at e
    cases q2 : pvK kvs with
    | none => rw [q2] at e; cases e
    | some ps =>
      rw [q2] at e; cases e
      obtain ⟨a, b⟩ := pvK_split q2
      refine .dic (ex.rd _ _ h) ?_ (RepL.dv ex sub r b)
      rw [a]
      have := congrArg (List.map pyK) q
      rw [List.map_map, List.map_map] at this
      exact this.symm
  | _, _, _, .exc0 _ _, e => by unfold pvS at e; cases e
  | _, _, _, .exc _ _ _ _ _, e => by unfold pvS at e; cases e
theorem RepL.dv (ex : Ext F H) (sub : ∀ a o, F a = some o → H a = some o) : ∀ {ds : List SD} {vs : List V} {ps : List PyData}, RepL K F ds vs → pvL ds = some ps → DvL K H vs ps
  | _, _, _, .nil, e => by unfold pvL at e; cases e; exact .nil
  | d :: ds, _, _, .cons h r, e => by
    unfold pvL at e
    cases q : pvS d with
    | none => rw [q] at e; cases e
    | some x => cases q2 : pvL ds with
      | none => rw [q, q2] at e; cases e
      | some y => rw [q, q2] at e; cases e; exact .cons (RepS.dv ex sub h q) (RepL.dv ex sub r q2)
end
theorem HReal.dv (R : HReal K F H μ) {d : SD} {v : V} {p : PyData} (r : RepS K F d v) (e : pv μ d = some p) : Dv K H v p := by
  by_cases z : ∃ a, d = .ref a
  · obtain ⟨a, rfl⟩ := z
    cases r
    unfold pv at e
    simp only at e
    cases q : μ a with
    | none => rw [q] at e; cases e
    | some m =>
      rw [q] at e
      obtain ⟨_, o, h, ro⟩ := R.mus a m q
      cases ro with
      | lst r =>
        rename_i ds vs
        cases q2 : pvL ds with
        | none => simp only [q2] at e; cases e
        | some ps => simp only [q2] at e; cases e; exact .lst (SqL.of h) (RepL.dv R.ext R.sub r q2)
      | _ => cases e
  · have e2 : pvS d = some p := by
      unfold pv at e
      split at e
      · rename_i a; exact absurd ⟨a, rfl⟩ z
      · exact e
    exact RepS.dv R.ext R.sub r e2
def drReprV : DRc := fun ds μ Q => match ds with
  | [d] => match pv μ d with
    | some p => (PyData.showable p = true ∧ p.shown.length ≤ sizeLine ∧ p.depth ≤ 64) ∧ Q (.str p.shown) μ
    | none => False
  | _ => False
theorem lc_reprV : LRc K drReprV (rReprV K) := fun F H μ xs ds Q' Q R r t k => by
  cases r with
  | nil => exact False.elim t
  | cons r1 r2 => cases r2 with
    | cons _ _ => exact False.elim t
    | nil =>
      rename_i d v
      cases e : pv μ d with
      | none => simp only [drReprV, e] at t
      | some p =>
        simp only [drReprV, e] at t
        exact ⟨v, p, rfl, R.dv r1 e, t.1, k _ μ t.2 F H _ (Stp.refl _ _ _) R (.str _)⟩
end
end DS
namespace DS
end DS
namespace DS
end DS
namespace DS
end DS
namespace DS
open PySem PySem.Spec PyProof.Rows L2
def allO (f : SD → Option PyData) : List SD → Option (List PyData)
  | [] => some []
  | d :: r => match f d, allO f r with
    | some x, some y => some (x :: y)
    | _, _ => none
end DS
namespace L2
end L2
namespace DS
end DS
namespace DS
open PySem PySem.Spec PyProof.Rows L2
abbrev FnMX (P : Program) (w : World) (base : Heap) {K : PySem.W.Frag} {mg : Str → Option Value} {x m qual : Str} {D : OCls K mg x} {st : Stmt} {ps : List Str} (M : MDef D m qual st ps) (k : Nat) (sp : DSpX) : Prop := FnG P w K mg base (L2.CX P w) k M.f M.fd ps (LSpX K sp)
abbrev FnIX (P : Program) (w : World) (base : Heap) {K : PySem.W.Frag} {mg : Str → Option Value} {x qual : Str} {D : OCls K mg x} {st : Stmt} {ps : List Str} (M : IDef D qual st ps) (k : Nat) (sp : DSpX) : Prop := FnG P w K mg base (L2.CX P w) k M.f M.fd ps (LSpX K sp)
abbrev FnIVX (P : Program) (w : World) (base : Heap) {K : PySem.W.Frag} {mg : Str → Option Value} {x qual : Str} {D : OCls K mg x} {st : Stmt} {ps : List Str} (M : IDefV D qual st ps) (k : Nat) (sp : DSpX) : Prop := FnG P w K mg base (L2.CX P w) k M.f M.fd ps (LSpX K sp)
/-- o.m(e, ..) -/
abbrev dMethX (x m : Str) (sp : DSpX) (Ex : DXX) (to : DTE) (t : DTA) : DTE := fun ρ μ Q => to ρ μ (mQ x m fun d μ1 => t ρ μ1 fun ds μ2 => sp (d :: ds) μ2 Q Ex)
/-- C(e, ..) -/
abbrev dMkCX (x : Str) (sp : DSpX) (Ex : DXX) (t : DTA) : DTE := fun ρ μ Q => t ρ μ fun ds μ1 => ∀ a, μ1 a = none → sp (.ref a :: ds) (up μ1 a (.obj x [])) (fun d μ2 => d = .non ∧ Q (.ref a) μ2) Ex
section
variable {An : HInv} {Ex : DXX} {X : Cx} {x m f qual : Str} {st : Stmt} {ps : List Str} {k n : Nat} {e o : Expr} {es : List Expr} {te to tv : DTE} {t : DTA} {p pos apos pos' : Pos} {sp : DSpX}
theorem ea_meth {D : OCls X.K X.mg x} {M : MDef D m qual st ps} (G : FnMX X.prog X.w X.base M k sp) (hq : Quiet X.A) (hr : Room n X.A) (zz : Rz An Ex X) (he : EA An X o to) (ha : AA An X (e :: es) t) (hk : k ≤ n := by omega)
    (hst : starEach (e :: es) X.env = (false, eval e X.env) :: starEach es X.env := by rfl) (hpl : (backTo pos (starEach es X.env)).any (·.1) = false := by rfl) {pl : Sem Bool}
    (ht : eval (.Call (.Attribute o m apos) (e :: es) [] pos) X.env = (do
      let ov ← eval o X.env
      standAt apos.atName
      let (f, first) ← holding [ov] (getMethod ov m pl)
      callWith pos f first (backTo pos (starEach (e :: es) X.env)) (backToKw pos (keywordEach [] X.env))) := by rfl) : EA An X (.Call (.Attribute o m apos) (e :: es) [] pos) (dMethX x m sp Ex to t) := by
  refine ⟨fun pins s σ H Q I h => ?_⟩
  obtain ⟨F, ρ, μ, Q', R, S, an, t0, kk⟩ := h
  refine PySem.W.methodCall_KW (pl := pl) (thn (he.run pins s σ H (fun v H1 => ∃ a d F1 μ1, v = .ref a ∧ RepS X.K F1 d v ∧ Stp F H μ F1 H1 μ1 ∧ HReal X.K F1 H1 μ1 ∧ (∃ dx vs, H1 a = some (.ins D.C dx vs) ∧ vs.lookup m = none) ∧ t ρ μ1 fun ds μ2 => sp (d :: ds) μ2 Q' Ex) I ⟨F, ρ, μ, _, R, S, an, t0, fun d μ1 t1 F1 H1 v s1 R1 r1 => ?_⟩) fun u s1 z => ?_) ht
  · unfold mQ at t1
    cases r1 with
    | ref a =>
      simp only at t1
      split at t1
      · rename_i z fs e1
        obtain ⟨rfl, hl, t1⟩ := t1
        obtain ⟨dx, vs, h1, h2, h3⟩ := R1.obj D e1
        exact ⟨a, _, F1, μ1, rfl, .ref a, s1, R1, ⟨dx, vs, h1, look_none h2 hl⟩, t1⟩
      · exact t1.elim
    | _ => exact t1.elim
  · obtain ⟨v, H1, I1, rx, a, d, F1, μ1, rfl, rd, sa, R1, ⟨dx, vs, h1, h2⟩, t1⟩ := z
    obtain rfl : u = Value.ref a := rx
    refine getmeth_ok I1 h1 D.k.c M.me h2 ?_
    refine PySem.W.callWith_K (first := [.ref a]) (h₀ := X.base) I.ok.mod.kin M.me.kp (thn (ha.run pos pins s1 σ H1 (fun vs H2 => ∃ F2 μ2 ds, Stp F1 H1 μ1 F2 H2 μ2 ∧ HReal X.K F2 H2 μ2 ∧ RepL X.K F2 ds vs ∧ sp (d :: ds) μ2 Q' Ex) I1
      ⟨F1, ρ, μ1, _, R1, S.mono sa.ext, zz.gr _ _ _ _ _ _ an sa, t1, fun ds μ2 t2 F2 H2 vs s2 R2 r2 => ⟨F2, μ2, ds, s2, R2, r2, t2⟩⟩) fun us s2 z => ?_) hst hpl
    obtain ⟨ws, H2, I2, r, F2, μ2, ds, s2, R2, r2, t2⟩ := z
    refine ⟨I2.kIn, ?_⟩
    refine call_g (us := .ref a :: us) (vs := .ref a :: ws) (dvs := []) (ds := []) (E := EX X.K An Ex) G hq (hr.mono hk) M.b .nil (passes_call zz.tk fun _ _ _ _ h => h) I2 (.cons rfl r) ?_
    rw [List.append_nil]
    exact ⟨F2, μ2, d :: ds, Q', Ex, R2, .cons (rd.mono s2.ext) r2, t2, fun d' μ' q F' H' v s' R' r' => kk d' μ' q F' H' v ((sa.trans s2).trans s') R' r', LSpX_E zz.gr (zz.gr _ _ _ _ _ _ an (sa.trans s2)) fun _ _ _ h => h⟩
theorem ea_mkC {D : OCls X.K X.mg x} {M : IDef D qual st ps} (G : FnIX X.prog X.w X.base M k sp) (hq : Quiet X.A) (hr : Room n X.A) (zz : Rz An Ex X) (ha : AA An X (e :: es) t) (hk : k + 1 ≤ n := by omega) (hg : Gl X x := by rfl) (hdb : (x == ("__debug__" : Str)) = false := by decide)
    (he : starEach (e :: es) X.env = (false, eval e X.env) :: starEach es X.env := by rfl) (hpl : (backTo pos (starEach es X.env)).any (·.1) = false := by rfl) : EA An X (.Call (.Name x p) (e :: es) [] pos) (dMkCX x sp Ex t) := by
  refine ⟨fun pins s σ H Q I h => ?_⟩
  obtain ⟨F, ρ, μ, Q', R, S, an, t0, kk⟩ := h
  refine wpAny_Call_Name_kw (ld_glob I hg D.m ?_ hdb)
  refine PySem.W.callWith_K (h₀ := X.base) I.ok.mod.kin M.maker.kp (thn (ha.run pos pins s σ H (fun vs H1 => ∃ F1 μ1 ds, Stp F H μ F1 H1 μ1 ∧ HReal X.K F1 H1 μ1 ∧ RepL X.K F1 ds vs ∧ ∀ a, μ1 a = none → sp (.ref a :: ds) (up μ1 a (.obj x [])) (fun d μ2 => d = .non ∧ Q' (.ref a) μ2) Ex) I
    ⟨F, ρ, μ, _, R, S, an, t0, fun ds μ1 t1 F1 H1 vs s1 R1 r1 => ⟨F1, μ1, ds, s1, R1, r1, t1⟩⟩) fun us s1 z => ?_) he hpl
  obtain ⟨vs, H1, I1, r, F1, μ1, ds, sa, R1, rl, t1⟩ := z
  refine ⟨I1.kIn, ?_⟩
  show wpAny _ _ (call (.ref D.C) us) _ _ _
  have nx : H1 (s1.heap.objs.size + 1) = none := I1.hok.fresh (Nat.le_succ _)
  have nd : H1 s1.heap.objs.size = none := I1.hok.fresh (Nat.le_refl _)
  have ne : s1.heap.objs.size ≠ s1.heap.objs.size + 1 := Nat.ne_of_lt (Nat.lt_succ_self _)
  have I2 := Inv.made (C := D.C) I1
  have n2 : upd H1 s1.heap.objs.size (.own (s1.heap.objs.size + 1)) (s1.heap.objs.size + 1) = none := by rw [upd_ne (Ne.symm ne)]; exact nx
  have RA := R1.newU (o := .own (s1.heap.objs.size + 1)) nd
  have RB := RA.newM (o := .ins D.C s1.heap.objs.size []) (m := .obj x []) n2 (.obj D.k rfl .nil)
  have SB := (Stp.newU (F := F1) (μ := μ1) (o := .own (s1.heap.objs.size + 1)) nd).trans (Stp.newM RA (o := .ins D.C s1.heap.objs.size []) (m := .obj x []) n2)
  have want : LSpX X.K sp (V.ref (s1.heap.objs.size + 1) :: vs) (upd (upd H1 s1.heap.objs.size (.own (s1.heap.objs.size + 1))) (s1.heap.objs.size + 1) (.ins D.C s1.heap.objs.size [])) (fun v H3 => v = .non ∧ Q (.ref (s1.heap.objs.size + 1)) H3) (EX X.K An Ex) :=
    ⟨F1, _, _, _, _, RB, .cons (.ref _) rl, t1 _ (R1.freeM nx), fun d μ' q F' H' v s' R' r' => by
      obtain ⟨rfl, q⟩ := q
      cases r'
      exact ⟨rfl, kk _ μ' q F' H' _ ((sa.trans SB).trans s') R' (.ref _)⟩, LSpX_E zz.gr (zz.gr _ _ _ _ _ _ an (sa.trans SB)) fun _ _ _ h => h⟩
  have rv : Vals (V.ref (s1.heap.objs.size + 1) :: vs) (Value.ref (s1.heap.objs.size + 1) :: us) := .cons rfl r
  have cnt : (Value.ref (s1.heap.objs.size + 1) :: us).length = ps.length := rv.length.symm.trans (G.len _ _ _ _ want)
  have bnd := M.b _ (Value.ref (s1.heap.objs.size + 1) :: us) I2.kIn (by simpa using cnt)
  rw [List.append_nil] at bnd
  refine wpAny_call (make_map (f := M.f) I1.kIn M.maker.makes M.maker.init (beq_iff_eq.mp M.maker.fn) (codeAny_mono (G.go _ X.stack _ _ ⟨Value.ref (s1.heap.objs.size + 1) :: us, []⟩ _ _ _ (EX X.K An Ex) (quiet_make hq D.C us []) ((hr.mono hk).make D.C us []) (I2.env0.make D.C us []) bnd rv want) fun r s' z => ?_))
  match r, z with
  | .error _, z => exact passes_call zz.tk (fun _ _ _ _ h => h) _ _ _ _ _ _ I2 z
  | .ok .next, z => exact False.elim z
  | .ok .brk, z => exact False.elim z
  | .ok .cont, z => exact False.elim z
  | .ok (.ret u), z =>
    obtain ⟨v, H', I3, rv', ev, q3⟩ := I2.after z
    subst ev
    exact ⟨rv', V.ref (s1.heap.objs.size + 1), H', I3, rfl, q3⟩
theorem de_methX {D : OCls X.K X.mg x} {M : MDef D m qual st ps} (G : FnMX X.prog X.w X.base M k sp) (hq : Quiet X.A) (hr : Room n X.A) (he : DE X o to) (ha : DA X (e :: es) t) (hk : k ≤ n := by omega)
    (hst : starEach (e :: es) X.env = (false, eval e X.env) :: starEach es X.env := by rfl) (hpl : (backTo pos (starEach es X.env)).any (·.1) = false := by rfl) {pl : Sem Bool}
    (ht : eval (.Call (.Attribute o m apos) (e :: es) [] pos) X.env = (do
      let ov ← eval o X.env
      standAt apos.atName
      let (f, first) ← holding [ov] (getMethod ov m pl)
      callWith pos f first (backTo pos (starEach (e :: es) X.env)) (backToKw pos (keywordEach [] X.env))) := by rfl) : DE X (.Call (.Attribute o m apos) (e :: es) [] pos) (dMeth x m (calmSp sp) to t) := by
  refine ⟨fun pins s σ H Q I h => ?_⟩
  obtain ⟨F, ρ, μ, Q', R, S, t0, kk⟩ := h
  refine PySem.W.methodCall_KW (pl := pl) (thn (he.run pins s σ H (fun v H1 => ∃ a d F1 μ1, v = .ref a ∧ RepS X.K F1 d v ∧ Stp F H μ F1 H1 μ1 ∧ HReal X.K F1 H1 μ1 ∧ (∃ dx vs, H1 a = some (.ins D.C dx vs) ∧ vs.lookup m = none) ∧ t ρ μ1 fun ds μ2 => sp (d :: ds) μ2 Q' fun _ _ _ => False) I ⟨F, ρ, μ, _, R, S, t0, fun d μ1 t1 F1 H1 v s1 R1 r1 => ?_⟩) fun u s1 z => ?_) ht
  · unfold mQ at t1
    cases r1 with
    | ref a =>
      simp only at t1
      split at t1
      · rename_i z fs e1
        obtain ⟨rfl, hl, t1⟩ := t1
        obtain ⟨dx, vs, h1, h2, h3⟩ := R1.obj D e1
        exact ⟨a, _, F1, μ1, rfl, .ref a, s1, R1, ⟨dx, vs, h1, look_none h2 hl⟩, t1⟩
      · exact t1.elim
    | _ => exact t1.elim
  · obtain ⟨v, H1, I1, rx, a, d, F1, μ1, rfl, rd, sa, R1, ⟨dx, vs, h1, h2⟩, t1⟩ := z
    obtain rfl : u = Value.ref a := rx
    refine getmeth_ok I1 h1 D.k.c M.me h2 ?_
    refine PySem.W.callWith_K (first := [.ref a]) (h₀ := X.base) I.ok.mod.kin M.me.kp (thn (ha.run pos pins s1 σ H1 (fun vs H2 => ∃ F2 μ2 ds, Stp F1 H1 μ1 F2 H2 μ2 ∧ HReal X.K F2 H2 μ2 ∧ RepL X.K F2 ds vs ∧ sp (d :: ds) μ2 Q' fun _ _ _ => False) I1
      ⟨F1, ρ, μ1, _, R1, S.mono sa.ext, t1, fun ds μ2 t2 F2 H2 vs s2 R2 r2 => ⟨F2, μ2, ds, s2, R2, r2, t2⟩⟩) fun us s2 z => ?_) hst hpl
    obtain ⟨ws, H2, I2, r, F2, μ2, ds, s2, R2, r2, t2⟩ := z
    refine ⟨I2.kIn, ?_⟩
    refine call_g (us := .ref a :: us) (vs := .ref a :: ws) (dvs := []) (ds := []) (E := E0) G hq (hr.mono hk) M.b .nil passesX0 I2 (.cons rfl r) ?_
    rw [List.append_nil]
    exact ⟨F2, μ2, d :: ds, Q', _, R2, .cons (rd.mono s2.ext) r2, t2, fun d' μ' q F' H' v s' R' r' => kk d' μ' q F' H' v ((sa.trans s2).trans s') R' r', fun _ _ _ z => by obtain ⟨_, _, _, _, _, _, _, _, _, _, z⟩ := z; exact z.elim⟩
theorem de_mkCX {D : OCls X.K X.mg x} {M : IDef D qual st ps} (G : FnIX X.prog X.w X.base M k sp) (hq : Quiet X.A) (hr : Room n X.A) (ha : DA X (e :: es) t) (hk : k + 1 ≤ n := by omega) (hg : Gl X x := by rfl) (hdb : (x == ("__debug__" : Str)) = false := by decide)
    (he : starEach (e :: es) X.env = (false, eval e X.env) :: starEach es X.env := by rfl) (hpl : (backTo pos (starEach es X.env)).any (·.1) = false := by rfl) : DE X (.Call (.Name x p) (e :: es) [] pos) (dMkC x (calmSp sp) t) := by
  refine ⟨fun pins s σ H Q I h => ?_⟩
  obtain ⟨F, ρ, μ, Q', R, S, t0, kk⟩ := h
  refine wpAny_Call_Name_kw (ld_glob I hg D.m ?_ hdb)
  refine PySem.W.callWith_K (h₀ := X.base) I.ok.mod.kin M.maker.kp (thn (ha.run pos pins s σ H (fun vs H1 => ∃ F1 μ1 ds, Stp F H μ F1 H1 μ1 ∧ HReal X.K F1 H1 μ1 ∧ RepL X.K F1 ds vs ∧ ∀ a, μ1 a = none → sp (.ref a :: ds) (up μ1 a (.obj x [])) (fun d μ2 => d = .non ∧ Q' (.ref a) μ2) fun _ _ _ => False) I
    ⟨F, ρ, μ, _, R, S, t0, fun ds μ1 t1 F1 H1 vs s1 R1 r1 => ⟨F1, μ1, ds, s1, R1, r1, t1⟩⟩) fun us s1 z => ?_) he hpl
  obtain ⟨vs, H1, I1, r, F1, μ1, ds, sa, R1, rl, t1⟩ := z
  refine ⟨I1.kIn, ?_⟩
  show wpAny _ _ (call (.ref D.C) us) _ _ _
  have nx : H1 (s1.heap.objs.size + 1) = none := I1.hok.fresh (Nat.le_succ _)
  have nd : H1 s1.heap.objs.size = none := I1.hok.fresh (Nat.le_refl _)
  have ne : s1.heap.objs.size ≠ s1.heap.objs.size + 1 := Nat.ne_of_lt (Nat.lt_succ_self _)
  have I2 := Inv.made (C := D.C) I1
  have n2 : upd H1 s1.heap.objs.size (.own (s1.heap.objs.size + 1)) (s1.heap.objs.size + 1) = none := by rw [upd_ne (Ne.symm ne)]; exact nx
  have RA := R1.newU (o := .own (s1.heap.objs.size + 1)) nd
  have RB := RA.newM (o := .ins D.C s1.heap.objs.size []) (m := .obj x []) n2 (.obj D.k rfl .nil)
  have SB := (Stp.newU (F := F1) (μ := μ1) (o := .own (s1.heap.objs.size + 1)) nd).trans (Stp.newM RA (o := .ins D.C s1.heap.objs.size []) (m := .obj x []) n2)
  have want : LSpX X.K sp (V.ref (s1.heap.objs.size + 1) :: vs) (upd (upd H1 s1.heap.objs.size (.own (s1.heap.objs.size + 1))) (s1.heap.objs.size + 1) (.ins D.C s1.heap.objs.size [])) (fun v H3 => v = .non ∧ Q (.ref (s1.heap.objs.size + 1)) H3) E0 :=
    ⟨F1, _, _, _, _, RB, .cons (.ref _) rl, t1 _ (R1.freeM nx), fun d μ' q F' H' v s' R' r' => by
      obtain ⟨rfl, q⟩ := q
      cases r'
      exact ⟨rfl, kk _ μ' q F' H' _ ((sa.trans SB).trans s') R' (.ref _)⟩, fun _ _ _ z => by obtain ⟨_, _, _, _, _, _, _, _, _, _, z⟩ := z; exact z.elim⟩
  have rv : Vals (V.ref (s1.heap.objs.size + 1) :: vs) (Value.ref (s1.heap.objs.size + 1) :: us) := .cons rfl r
  have cnt : (Value.ref (s1.heap.objs.size + 1) :: us).length = ps.length := rv.length.symm.trans (G.len _ _ _ _ want)
  have bnd := M.b _ (Value.ref (s1.heap.objs.size + 1) :: us) I2.kIn (by simpa using cnt)
  rw [List.append_nil] at bnd
  refine wpAny_call (make_map (f := M.f) I1.kIn M.maker.makes M.maker.init (beq_iff_eq.mp M.maker.fn) (codeAny_mono (G.go _ X.stack _ _ ⟨Value.ref (s1.heap.objs.size + 1) :: us, []⟩ _ _ _ E0 (quiet_make hq D.C us []) ((hr.mono hk).make D.C us []) (I2.env0.make D.C us []) bnd rv want) fun r s' z => ?_))
  match r, z with
  | .error _, z => exact passesX0 _ _ _ _ _ _ I2 z
  | .ok .next, z => exact False.elim z
  | .ok .brk, z => exact False.elim z
  | .ok .cont, z => exact False.elim z
  | .ok (.ret u), z =>
    obtain ⟨v, H', I3, rv', ev, q3⟩ := I2.after z
    subst ev
    exact ⟨rv', V.ref (s1.heap.objs.size + 1), H', I3, rfl, q3⟩
end
section
variable {P : Program} {w : World} {K : PySem.W.Frag} {mg : Str → Option Value} {base : Heap}
theorem def_okRM {x qual : Str} {st : Stmt} {N ps : List Str} {k : Nat} {sp : DSpX} {f : Addr} {fd : FuncData} (F : Fun K x qual st f fd) (S : FnScope N ps (defScope st)) (t : DXX → DTS) (len : ∀ ds μ Q E, sp ds μ Q E → ds.length = ps.length)
    (walk : ∀ (cdv : Value) (A : Around) (outer : List Env) (s : Shared) (H : Hp) (E : XK) (Ex : DXX) (An : HInv), Quiet A → Room k (A.deeper (envOfC qual (defScope st) s.heap.objs.size f cdv)) → Rz An Ex (cxOf (L2.CX P w) P w K mg base N qual (defScope st) f cdv A outer s H E) →
      SAs An (cxOf (L2.CX P w) P w K mg base N qual (defScope st) f cdv A outer s H E) (defBody st) (t Ex))
    (read : ∀ ds μ Q E, sp ds μ Q E → t E { nx := fun _ μ' => Q .non μ', rt := Q } (begin_ N ds) μ) : FnG P w K mg base (L2.CX P w) (k + 1) f fd ps (LSpX K sp) := by
  obtain ⟨oc, od, kV, doc, pm, an, cdv, ct, osl, rfl, lk, hcd⟩ := F.ex
  refine fnG_of lk hcd S (fun vs H Q E h => ?_) fun A outer s H vs Q E quiet room want => ?_
  · obtain ⟨F, μ, ds, Q', E', _, r, q, _⟩ := h
    rw [← r.length]; exact len ds μ Q' E' q
  · obtain ⟨F, μ, ds, Q', E', R, r, q, k1, k2⟩ := want
    refine ⟨_, walk cdv A outer s H E E' (Stp F H μ) quiet room ⟨grows_stp _ _ _, takes_mono (takes_of rfl rfl rfl rfl) fun cls d σ H' z => k2 cls d H' z⟩, F, begin_ N ds, μ, _, R, slots_begin r, Stp.refl _ _ _, read ds μ Q' E' q, ?_, k1, fun _ _ z => False.elim z, fun _ _ z => False.elim z⟩
    exact fun ρ' μ' q F' H' σ' s' R' _ => k1 .non μ' q F' H' .non s' R' .non
theorem def_okRV {x qual : Str} {st : Stmt} {N ps : List Str} {k : Nat} {sp : DSpX} {f : Addr} {fd : FuncData} (F : FunV K x qual st f fd) (S : FnScope N ps (defScope st)) (t : DXX → DTS) (len : ∀ ds μ Q E, sp ds μ Q E → ds.length = ps.length)
    (walk : ∀ (cdv : Value) (A : Around) (outer : List Env) (s : Shared) (H : Hp) (E : XK) (Ex : DXX) (An : HInv), Quiet A → Room k (A.deeper (envOfC qual (defScope st) s.heap.objs.size f cdv)) → Rz An Ex (cxOf (L2.CX P w) P w K mg base N qual (defScope st) f cdv A outer s H E) →
      SAs An (cxOf (L2.CX P w) P w K mg base N qual (defScope st) f cdv A outer s H E) (defBody st) (t Ex))
    (read : ∀ ds μ Q E, sp ds μ Q E → t E { nx := fun _ μ' => Q .non μ', rt := Q } (begin_ N ds) μ) : FnG P w K mg base (L2.CX P w) (k + 1) f fd ps (LSpX K sp) := by
  obtain ⟨oc, od, dV, kV, doc, pm, an, cdv, ct, osl, rfl, lk, hcd⟩ := F.ex
  refine fnG_of lk hcd S (fun vs H Q E h => ?_) fun A outer s H vs Q E quiet room want => ?_
  · obtain ⟨F, μ, ds, Q', E', _, r, q, _⟩ := h
    rw [← r.length]; exact len ds μ Q' E' q
  · obtain ⟨F, μ, ds, Q', E', R, r, q, k1, k2⟩ := want
    refine ⟨_, walk cdv A outer s H E E' (Stp F H μ) quiet room ⟨grows_stp _ _ _, takes_mono (takes_of rfl rfl rfl rfl) fun cls d σ H' z => k2 cls d H' z⟩, F, begin_ N ds, μ, _, R, slots_begin r, Stp.refl _ _ _, read ds μ Q' E' q, ?_, k1, fun _ _ z => False.elim z, fun _ _ z => False.elim z⟩
    exact fun ρ' μ' q F' H' σ' s' R' _ => k1 .non μ' q F' H' .non s' R' .non
end
end DS
namespace DS
end DS
namespace DS
open PySem PySem.Spec PyProof.Rows L2
abbrev lenSp (sp : DSp) : DSp := fun ds μ Q E => sp ds μ (fun v μ2 => ∃ n : Nat, v = .int (n : Nat) ∧ n < 2 ^ 63 ∧ Q (.int (n : Nat)) μ2) E
abbrev dLenO (x : Str) (sp : DSp) (t : DTA) : DTE := fun ρ μ Q => t ρ μ fun ds μ1 => match ds with
  | [d] => mQ x "__len__" (fun d μ1 => lenSp sp [d] μ1 Q fun _ _ _ => False) d μ1
  | _ => False
section
variable {X : Cx} {x qual : Str} {st : Stmt} {ps : List Str} {k n : Nat} {e : Expr} {t : DTA} {p pos : Pos} {sp : DSp}
theorem de_lenO {D : OCls X.K X.mg x} {M : MDef D "__len__" qual st ps} (G : FnM X.prog X.w X.base M k sp) (hq : Quiet X.A) (hr : Room n X.A) (ha : DA X [e] t) (hk : k + 1 ≤ n := by omega) (hg : Gl X "len" := by rfl) (hm : X.mg "len" = none)
    (he : starEach [e] X.env = (false, eval e X.env) :: starEach [] X.env := by rfl) (hpl : (backTo pos (starEach [] X.env)).any (·.1) = false := by rfl) : DE X (.Call (.Name "len" p) [e] [] pos) (dLenO x sp t) := by
  refine ⟨fun pins s σ H Q I h => ?_⟩
  obtain ⟨F, ρ, μ, Q', R, S, t0, kk⟩ := h
  refine wpAny_Call_Name_kw (ld_blt I hg hm PySem.boot_len ?_ (by decide) (by decide))
  refine PyProof.Rows.callWith_builtin1 (thn (ha.run pos pins s σ H (fun vs H1 => ∃ a d F1 μ1, vs = [.ref a] ∧ RepS X.K F1 d (.ref a) ∧ Stp F H μ F1 H1 μ1 ∧ HReal X.K F1 H1 μ1 ∧ (∃ dx fs, H1 a = some (.ins D.C dx fs)) ∧ lenSp sp [d] μ1 Q' fun _ _ _ => False) I
    ⟨F, ρ, μ, _, R, S, t0, fun ds μ1 t1 F1 H1 vs s1 R1 r1 => ?_⟩) fun us s1 z => ?_) he hpl
  · match ds, t1 with
    | [d], t1 =>
      unfold mQ at t1
      cases r1 with
      | cons rd rn =>
        cases rn
        cases rd with
        | ref a =>
          simp only at t1
          split at t1
          · rename_i z fs e1
            obtain ⟨rfl, hl, t1⟩ := t1
            obtain ⟨dx, vs, h1, h2, h3⟩ := R1.obj D e1
            exact ⟨a, _, F1, μ1, rfl, .ref a, s1, R1, ⟨dx, vs, h1⟩, t1⟩
          · exact t1.elim
        | _ => exact t1.elim
  · obtain ⟨vs, H1, I1, rv, a, d, F1, μ1, rfl, rd, sa, R1, ⟨dx, fs, h1⟩, t1⟩ := z
    obtain ⟨u, rfl, ru⟩ := vals1 rv
    obtain rfl : u = Value.ref a := ru
    obtain ⟨mA, J, _⟩ := ins_get I1.hok h1
    obtain ⟨od, J, _⟩ := J.look
    refine Calls.call_function_entry kind_len plain_len entry_len (args_len1 _) ?_
    unfold Builtin.«len»
    refine wpAny_bind (m := oneArg "len" _) (wpAny_pure ?_)
    have want : LSp X.K sp [V.ref a] H1 (fun v H3 => ∃ n : Nat, v = .int (n : Nat) ∧ n < 2 ^ 63 ∧ Q (.int (n : Nat)) H3) E0 :=
      ⟨F1, μ1, [d], _, _, R1, .cons rd .nil, t1, fun d' μ' q F' H' v s' R' r' => by
        obtain ⟨n, rfl, hn, q⟩ := q
        cases r'
        exact ⟨n, rfl, hn, kk _ μ' q F' H' _ (sa.trans s') R' (.int _)⟩, fun _ _ _ q => q.elim⟩
    have cnt := G.len _ _ _ _ want
    have bnd := M.b s1 [Value.ref a] I1.kIn (by simpa using cnt)
    rw [List.append_nil] at bnd
    refine wpAny_bind (m := callSpecial? (.ref a) (PySem.Str.ofString "__len__")) (PySem.W.special_fn (name := "__len__") (args := []) I1.kIn J M.me.at_ (beq_iff_eq.mp M.me.fn) (wpAny_call (codeAny_mono (G.go X.A.in1 X.stack s1 H1 ⟨[.ref a], []⟩ [.ref a] [.ref a] _ E0 hq (hr.mono hk).in1 I1.env0.in1 bnd (.cons rfl .nil) want) fun r s' z => ?_)))
    match r, z with
    | .error _, z => exact False.elim z
    | .ok .next, z => exact False.elim z
    | .ok .brk, z => exact False.elim z
    | .ok .cont, z => exact False.elim z
    | .ok (.ret u), z =>
      obtain ⟨v, H', I3, rv', n, ev, hn, q3⟩ := I1.after z
      subst ev
      obtain ⟨tk, rfl⟩ : ∃ tk, u = .int (n : Nat) tk := rv'
      refine wpAny_bind (wpAny_holding (wpAny_pure ?_))
      refine wpAny_bind (wpAny_letGo ?_)
      show wpAny _ _ (if ((n : Nat) : Int) < 0 then _ else _) _ _ _
      rw [if_neg (by omega)]
      show wpAny _ _ (if ((n : Nat) : Int) ≥ 2 ^ 63 then _ else _) _ _ _
      rw [if_neg (by omega)]
      exact wpAny_bind (wpAny_mkInt (wpAny_pure ⟨_, rfl, V.int (n : Nat), H', I3.tok _, ⟨_, rfl⟩, q3⟩))
end
end DS
namespace DS
open PySem PySem.Spec PyProof.Rows L2
/-- the default is the constant () -/
structure DefT (K : PySem.W.Frag) (fd : FuncData) (ps : List Str) : Prop where
  b : ∃ c : Addr, Binds K fd ps [.ref c] ∧ ∀ F : Hp, SqT K F c []
abbrev defSp (sp : DSpX) : DSpX := fun ds μ Q E => sp (ds ++ [.tup []]) μ Q E
theorem bindsV1 {K : PySem.W.Frag} {fd : FuncData} {ps : List Str} {T : Addr} {o : Obj} {its : Array Value} {n : Nat} {v : Value} (lT : K.lookup T = some o) (oT : o.data = .seq its n)
    (h : ∀ us : List Value, us.length + 1 = ps.length → ∃ k, bindArgs fd ⟨us, []⟩ = seqItems? (.ref T) >>= k ∧ k (some its) = pure (ps.zip (us ++ [v]))) : Binds K fd ps [v] := fun s us X hlen => by
  obtain ⟨k, e1, e2⟩ := h us (by rw [List.length_append, List.length_singleton] at hlen; exact hlen)
  refine BindsTo.of_looks fun M => ?_
  rw [e1]
  exact looks_items X lT oT (.of_pure e2)
theorem repL_app {K : PySem.W.Frag} {F : Hp} : ∀ {ds : List SD} {vs : List V} {ds2 : List SD} {vs2 : List V}, RepL K F ds vs → RepL K F ds2 vs2 → RepL K F (ds ++ ds2) (vs ++ vs2)
  | _, _, _, _, .nil, h => h
  | _, _, _, _, .cons r t, h => .cons r (repL_app t h)
section
variable {An : HInv} {Ex : DXX} {X : Cx} {x m f qual : Str} {st : Stmt} {ps : List Str} {k n : Nat} {e o : Expr} {es : List Expr} {te to tv : DTE} {t : DTA} {p pos apos pos' : Pos} {sp : DSpX}
theorem ea_mkC1 {D : OCls X.K X.mg x} {M : IDefV D qual st ps} (V1 : DefT X.K M.fd ps) (G : FnIVX X.prog X.w X.base M k sp) (hq : Quiet X.A) (hr : Room n X.A) (zz : Rz An Ex X) (ha : AA An X (e :: es) t) (hk : k + 1 ≤ n := by omega) (hg : Gl X x := by rfl) (hdb : (x == ("__debug__" : Str)) = false := by decide)
    (he : starEach (e :: es) X.env = (false, eval e X.env) :: starEach es X.env := by rfl) (hpl : (backTo pos (starEach es X.env)).any (·.1) = false := by rfl) : EA An X (.Call (.Name x p) (e :: es) [] pos) (dMkCX x (defSp sp) Ex t) := by
  refine ⟨fun pins s σ H Q I h => ?_⟩
  obtain ⟨c0, hb0, hc0⟩ := V1.b
  obtain ⟨F, ρ, μ, Q', R, S, an, t0, kk⟩ := h
  refine wpAny_Call_Name_kw (ld_glob I hg D.m ?_ hdb)
  refine PySem.W.callWith_K (h₀ := X.base) I.ok.mod.kin M.maker.kp (thn (ha.run pos pins s σ H (fun vs H1 => ∃ F1 μ1 ds, Stp F H μ F1 H1 μ1 ∧ HReal X.K F1 H1 μ1 ∧ RepL X.K F1 ds vs ∧ ∀ a, μ1 a = none → defSp sp (.ref a :: ds) (up μ1 a (.obj x [])) (fun d μ2 => d = .non ∧ Q' (.ref a) μ2) Ex) I
    ⟨F, ρ, μ, _, R, S, an, t0, fun ds μ1 t1 F1 H1 vs s1 R1 r1 => ⟨F1, μ1, ds, s1, R1, r1, t1⟩⟩) fun us s1 z => ?_) he hpl
  obtain ⟨vs, H1, I1, r, F1, μ1, ds, sa, R1, rl, t1⟩ := z
  refine ⟨I1.kIn, ?_⟩
  show wpAny _ _ (call (.ref D.C) us) _ _ _
  have nx : H1 (s1.heap.objs.size + 1) = none := I1.hok.fresh (Nat.le_succ _)
  have nd : H1 s1.heap.objs.size = none := I1.hok.fresh (Nat.le_refl _)
  have ne : s1.heap.objs.size ≠ s1.heap.objs.size + 1 := Nat.ne_of_lt (Nat.lt_succ_self _)
  have I2 := Inv.made (C := D.C) I1
  have n2 : upd H1 s1.heap.objs.size (.own (s1.heap.objs.size + 1)) (s1.heap.objs.size + 1) = none := by rw [upd_ne (Ne.symm ne)]; exact nx
  have RA := R1.newU (o := .own (s1.heap.objs.size + 1)) nd
  have RB := RA.newM (o := .ins D.C s1.heap.objs.size []) (m := .obj x []) n2 (.obj D.k rfl .nil)
  have SB := (Stp.newU (F := F1) (μ := μ1) (o := .own (s1.heap.objs.size + 1)) nd).trans (Stp.newM RA (o := .ins D.C s1.heap.objs.size []) (m := .obj x []) n2)
  have want : LSpX X.K sp (V.ref (s1.heap.objs.size + 1) :: (vs ++ [.ref c0])) (upd (upd H1 s1.heap.objs.size (.own (s1.heap.objs.size + 1))) (s1.heap.objs.size + 1) (.ins D.C s1.heap.objs.size [])) (fun v H3 => v = .non ∧ Q (.ref (s1.heap.objs.size + 1)) H3) (EX X.K An Ex) :=
    ⟨F1, _, _, _, _, RB, .cons (.ref _) (repL_app rl (.cons (.tup (hc0 _) .nil) .nil)), t1 _ (R1.freeM nx), fun d μ' q F' H' v s' R' r' => by
      obtain ⟨rfl, q⟩ := q
      cases r'
      exact ⟨rfl, kk _ μ' q F' H' _ ((sa.trans SB).trans s') R' (.ref _)⟩, LSpX_E zz.gr (zz.gr _ _ _ _ _ _ an (sa.trans SB)) fun _ _ _ h => h⟩
  have rv : Vals (V.ref (s1.heap.objs.size + 1) :: (vs ++ [.ref c0])) (Value.ref (s1.heap.objs.size + 1) :: (us ++ [.ref c0])) := .cons rfl (r.append (.cons rfl .nil))
  have cnt : (Value.ref (s1.heap.objs.size + 1) :: (us ++ [.ref c0])).length = ps.length := rv.length.symm.trans (G.len _ _ _ _ want)
  have bnd := hb0 _ (Value.ref (s1.heap.objs.size + 1) :: us) I2.kIn (by simpa using cnt)
  refine wpAny_call (make_map (f := M.f) I1.kIn M.maker.makes M.maker.init (beq_iff_eq.mp M.maker.fn) (codeAny_mono (G.go _ X.stack _ _ ⟨Value.ref (s1.heap.objs.size + 1) :: us, []⟩ _ _ _ (EX X.K An Ex) (quiet_make hq D.C us []) ((hr.mono hk).make D.C us []) (I2.env0.make D.C us []) bnd rv want) fun r s' z => ?_))
  match r, z with
  | .error _, z => exact passes_call zz.tk (fun _ _ _ _ h => h) _ _ _ _ _ _ I2 z
  | .ok .next, z => exact False.elim z
  | .ok .brk, z => exact False.elim z
  | .ok .cont, z => exact False.elim z
  | .ok (.ret u), z =>
    obtain ⟨v, H', I3, rv', ev, q3⟩ := I2.after z
    subst ev
    exact ⟨rv', V.ref (s1.heap.objs.size + 1), H', I3, rfl, q3⟩
end
end DS
namespace DS
open PySem PySem.Spec PyProof.Rows L2
theorem repL_strs {K : PySem.W.Frag} {F : Hp} : ∀ l : List Str, RepL K F (l.map SD.str) (l.map V.str)
  | [] => .nil
  | x :: r => .cons (.str x) (repL_strs r)
/-- a method of a text with one argument -/
abbrev dText1 (r : SD → SD → Mu → (SD → Mu → Prop) → Prop) (to te : DTE) : DTE := fun ρ μ Q => to ρ μ fun x μ1 => isStr x = true ∧ te ρ μ1 fun y μ2 => r x y μ2 Q
def drSplit (x y : SD) (μ : Mu) (Q : SD → Mu → Prop) : Prop := match x, y with
  | .str a, .str b => ((b.length == 0) = false ∧ a.length + 2 ≤ sizeLine) ∧ Q (.lst ((Txt.split a b).map SD.str)) μ
  | _, _ => False
def drPart (x y : SD) (μ : Mu) (Q : SD → Mu → Prop) : Prop := match x, y with
  | .str a, .str b => ((b.length == 0) = false ∧ a.length ≤ sizeLine) ∧ Q (.tup [.str (Txt.partition a b).1, .str (Txt.partition a b).2.1, .str (Txt.partition a b).2.2]) μ
  | _, _ => False
def drLstrip (x y : SD) (μ : Mu) (Q : SD → Mu → Prop) : Prop := match x, y with
  | .str a, .str b => a.length ≤ sizeLine ∧ Q (.str (Txt.lstripChars a b)) μ
  | _, _ => False
theorem mt_lstripC {X : Cx} : MtR X "str.lstrip" (fun x xs H Q => ∃ a b, x = .str a ∧ xs = [.str b] ∧ a.length ≤ sizeLine ∧ Q (.str (Txt.lstripChars a b)) H) := by
  intro pins s σ H x xs v us Q I rx rs h
  obtain ⟨a, b, rfl, rfl, hc, h⟩ := h
  obtain ⟨t, rfl⟩ := rx
  cases rs with
  | cons r1 rs =>
    cases rs
    obtain ⟨u, rfl⟩ := r1
    exact PySem.SC.lstripChars (fun t' k => ⟨V.str (Txt.lstripChars a b), H, I.tok k, ⟨t', rfl⟩, h⟩) hc
section
variable {X : Cx} {o e : Expr} {to te : DTE} {apos pos : Pos}
theorem de_split (ho : DE X o to) (he : DE X e te) (hs : starEach [e] X.env = [(false, eval e X.env)] := by rfl) (hbase : attributeBase o "split" X.env (eval o X.env) = eval o X.env := by rfl) (hline : (apos.endLine == pos.line) = true := by rfl) :
    DE X (.Call (.Attribute o "split" apos) [e] [] pos) (dText1 drSplit to te) := weakE (pe_split ho he hs hbase hline) fun σ H Q h => by
  obtain ⟨F, ρ, μ, Q', R, S, t, k⟩ := h
  refine ⟨F, ρ, μ, _, R, S, t, fun d μ1 t1 F1 H1 v s1 R1 r1 => ?_⟩
  obtain ⟨hst, t1⟩ := t1
  cases d with
  | str a =>
    cases r1
    refine ⟨⟨a, rfl⟩, F1, ρ, μ1, _, R1, S.mono s1.ext, t1, fun y μ2 t2 F2 H2 w s2 R2 r2 => ?_⟩
    cases y with
    | str b =>
      cases r2
      obtain ⟨⟨h1, h2⟩, q⟩ := t2
      exact ⟨a, b, rfl, rfl, h1, h2, fun p hp => k _ _ q _ _ _ ((s1.trans s2).trans (Stp.newS R2 hp)) (R2.newS hp) (.lst upd_same (repL_strs _))⟩
    | _ => exact False.elim t2
  | _ => cases hst
theorem de_part (ho : DE X o to) (he : DE X e te) (hs : starEach [e] X.env = [(false, eval e X.env)] := by rfl) (hbase : attributeBase o "partition" X.env (eval o X.env) = eval o X.env := by rfl) (hline : (apos.endLine == pos.line) = true := by rfl) :
    DE X (.Call (.Attribute o "partition" apos) [e] [] pos) (dText1 drPart to te) := weakE (pe_partition ho he hs hbase hline) fun σ H Q h => by
  obtain ⟨F, ρ, μ, Q', R, S, t, k⟩ := h
  refine ⟨F, ρ, μ, _, R, S, t, fun d μ1 t1 F1 H1 v s1 R1 r1 => ?_⟩
  obtain ⟨hst, t1⟩ := t1
  cases d with
  | str a =>
    cases r1
    refine ⟨⟨a, rfl⟩, F1, ρ, μ1, _, R1, S.mono s1.ext, t1, fun y μ2 t2 F2 H2 w s2 R2 r2 => ?_⟩
    cases y with
    | str b =>
      cases r2
      obtain ⟨⟨h1, h2⟩, q⟩ := t2
      exact ⟨a, b, rfl, rfl, h1, h2, fun p hp => k _ _ q _ _ _ ((s1.trans s2).trans (Stp.newS R2 hp)) (R2.newS hp) (.tup (.inl (.inl upd_same)) (.cons (.str _) (.cons (.str _) (.cons (.str _) .nil))))⟩
    | _ => exact False.elim t2
  | _ => cases hst
theorem de_lstrip (ho : DE X o to) (he : DE X e te) (hs : starEach [e] X.env = [(false, eval e X.env)] := by rfl) (hbase : attributeBase o "lstrip" X.env (eval o X.env) = eval o X.env := by rfl) (hline : (apos.endLine == pos.line) = true := by rfl) :
    DE X (.Call (.Attribute o "lstrip" apos) [e] [] pos) (dText1 drLstrip to te) := weakE (pe_m1 F.slot_str_lstrip F.type_str_lstrip mt_lstripC ho he hs hbase hline) fun σ H Q h => by
  obtain ⟨F, ρ, μ, Q', R, S, t, k⟩ := h
  refine ⟨F, ρ, μ, _, R, S, t, fun d μ1 t1 F1 H1 v s1 R1 r1 => ?_⟩
  obtain ⟨hst, t1⟩ := t1
  cases d with
  | str a =>
    cases r1
    refine ⟨⟨a, rfl⟩, F1, ρ, μ1, _, R1, S.mono s1.ext, t1, fun y μ2 t2 F2 H2 w s2 R2 r2 => ?_⟩
    cases y with
    | str b =>
      cases r2
      exact ⟨a, b, rfl, rfl, t2.1, k _ _ t2.2 F2 H2 _ (s1.trans s2) R2 (.str _)⟩
    | _ => exact False.elim t2
  | _ => cases hst
end
end DS
namespace L2
end L2
namespace DS
open PySem PySem.Spec PyProof.Rows L2
section
variable {X : Cx} {x qual : Str} {st : Stmt} {ps : List Str} {k n : Nat} {p pos : Pos} {sp : DSp}
/-- C() of a class whose __init__ takes self alone -/
theorem de_mkC0 {D : OCls X.K X.mg x} {M : IDef D qual st ps} (G : FnI X.prog X.w X.base M k sp) (hq : Quiet X.A) (hr : Room n X.A) (hk : k + 1 ≤ n := by omega) (hg : Gl X x := by rfl) (hdb : (x == ("__debug__" : Str)) = false := by decide) :
    DE X (.Call (.Name x p) [] [] pos) (dMkC x sp dNil) := by
  refine ⟨fun pins s σ H Q I h => ?_⟩
  obtain ⟨F, ρ, μ, Q', R, S, t0, kk⟩ := h
  refine wpAny_Call_Name_kw (ld_glob I hg D.m ?_ hdb)
  refine PySem.W.callWith_K0 (first := []) I.kIn M.maker.kp ?_
  show wpAny _ _ (call (.ref D.C) []) _ _ _
  obtain ⟨vs, us, H1, s1, I1, r, F1, μ1, ds, sa, R1, rl, t1, hus, hs, _⟩ : ∃ (vs : List V) (us : List Value) (H1 : Hp) (s1 : Shared), Inv X pins σ H1 s1 ∧ Vals vs us ∧ ∃ F1 μ1 ds, Stp F H μ F1 H1 μ1 ∧ HReal X.K F1 H1 μ1 ∧ RepL X.K F1 ds vs ∧ (∀ a, μ1 a = none → sp (.ref a :: ds) (up μ1 a (.obj x [])) (fun d μ2 => d = .non ∧ Q' (.ref a) μ2) fun _ _ _ => False) ∧ us = [] ∧ s1 = s ∧ vs = [] :=
    ⟨[], [], H, s, I, .nil, F, μ, [], Stp.refl _ _ _, R, .nil, t0, rfl, rfl, rfl⟩
  subst hus
  subst hs
  have nx : H1 (s1.heap.objs.size + 1) = none := I1.hok.fresh (Nat.le_succ _)
  have nd : H1 s1.heap.objs.size = none := I1.hok.fresh (Nat.le_refl _)
  have ne : s1.heap.objs.size ≠ s1.heap.objs.size + 1 := Nat.ne_of_lt (Nat.lt_succ_self _)
  have I2 := Inv.made (C := D.C) I1
  have n2 : upd H1 s1.heap.objs.size (.own (s1.heap.objs.size + 1)) (s1.heap.objs.size + 1) = none := by rw [upd_ne (Ne.symm ne)]; exact nx
  have RA := R1.newU (o := .own (s1.heap.objs.size + 1)) nd
  have RB := RA.newM (o := .ins D.C s1.heap.objs.size []) (m := .obj x []) n2 (.obj D.k rfl .nil)
  have SB := (Stp.newU (F := F1) (μ := μ1) (o := .own (s1.heap.objs.size + 1)) nd).trans (Stp.newM RA (o := .ins D.C s1.heap.objs.size []) (m := .obj x []) n2)
  have want : LSp X.K sp (V.ref (s1.heap.objs.size + 1) :: vs) (upd (upd H1 s1.heap.objs.size (.own (s1.heap.objs.size + 1))) (s1.heap.objs.size + 1) (.ins D.C s1.heap.objs.size [])) (fun v H3 => v = .non ∧ Q (.ref (s1.heap.objs.size + 1)) H3) E0 :=
    ⟨F1, _, _, _, _, RB, .cons (.ref _) rl, t1 _ (R1.freeM nx), fun d μ' q F' H' v s' R' r' => by
      obtain ⟨rfl, q⟩ := q
      cases r'
      exact ⟨rfl, kk _ μ' q F' H' _ ((sa.trans SB).trans s') R' (.ref _)⟩, fun _ _ _ q => q.elim⟩
  have rv : Vals (V.ref (s1.heap.objs.size + 1) :: vs) (Value.ref (s1.heap.objs.size + 1) :: ([] : List Value)) := .cons rfl r
  have cnt : (Value.ref (s1.heap.objs.size + 1) :: ([] : List Value)).length = ps.length := rv.length.symm.trans (G.len _ _ _ _ want)
  have bnd := M.b _ (Value.ref (s1.heap.objs.size + 1) :: ([] : List Value)) I2.kIn (by simpa using cnt)
  rw [List.append_nil] at bnd
  refine wpAny_call (make_map (f := M.f) I1.kIn M.maker.makes M.maker.init (beq_iff_eq.mp M.maker.fn) (codeAny_mono (G.go _ X.stack _ _ ⟨Value.ref (s1.heap.objs.size + 1) :: ([] : List Value), []⟩ _ _ _ E0 (quiet_make hq D.C ([] : List Value) []) ((hr.mono hk).make D.C ([] : List Value) []) (I2.env0.make D.C ([] : List Value) []) bnd rv want) fun r s' z => ?_))
  match r, z with
  | .error _, z => exact False.elim z
  | .ok .next, z => exact False.elim z
  | .ok .brk, z => exact False.elim z
  | .ok .cont, z => exact False.elim z
  | .ok (.ret u), z =>
    obtain ⟨v, H', I3, rv', ev, q3⟩ := I2.after z
    subst ev
    exact ⟨rv', V.ref (s1.heap.objs.size + 1), H', I3, rfl, q3⟩
end
end DS
namespace DS
open PySem PySem.Spec PyProof.Rows L2
/-- D.get(e, c) -/
def gGetQ (kvs : List (Str × Int)) (c : Int) (Q : SD → Mu → Prop) : SD → Mu → Prop := fun d μ => match d with
  | .str z => Q (.int ((kvs.lookup z).getD c)) μ
  | _ => False
abbrev dGGet (kvs : List (Str × Int)) (te : DTE) (c : Int) : DTE := fun ρ μ Q => te ρ μ (gGetQ kvs c Q)
def tGGet (kvs : List (Str × Int)) (te : TE) (c : Int) : TE := fun σ H Q => te σ H fun x H1 => ∃ z, x = .str z ∧ Q (.int ((kvs.lookup z).getD c)) H1
section
variable {X : Cx} {x : Str} {kvs : List (Str × Int)} {e : Expr} {te : TE} {td : DTE} {p apos pos cp cp2 : Pos} {c : Int} {j : Nat}
theorem pe_gGet (D : GDic X.K X.w.params X.mg x kvs) (hg : Gl X x) (he : PE X e te) (hf : PE X (.UnaryOp .USub (.Constant (.int c) j cp) cp2) (tC (.int (-c)))) (m : M2 X (.Name x p) "get" apos e (.UnaryOp .USub (.Constant (.int c) j cp) cp2) pos) (hdb : (x == ("__debug__" : Str)) = false := by decide) :
    PE X (.Call (.Attribute (.Name x p) "get" apos) [e, .UnaryOp .USub (.Constant (.int c) j cp) cp2] [] pos) (tGGet kvs te (-c)) := by
  refine ⟨fun pins s σ H Q I h => ?_⟩
  refine wpAny_Call_method m.base m.few m.line PySem.F.plainAttrs_dict PySem.F.slot_dict_get PySem.F.type_dict_get (ld_glob I hg D.m ?_ hdb)
  obtain ⟨es, n, lk, lit, _⟩ := D.ex
  have hget : s.heap.get? D.a = some ⟨.type "dict", none, .dict es n, #[]⟩ := I.kIn _ _ lk
  refine ⟨⟨_, hget, rfl⟩, fun a z => (by cases z; exact ⟨_, hget, rfl⟩), ?_⟩
  rw [m.trees]
  refine Calls.callWith_builtin rfl (Calls.evalArgs_plain (Calls.spliced_cons (thn (he.run pins s σ H _ I h) fun iv s2 ⟨y, H2, I2, ry, z, ez, q2⟩ =>
    Calls.spliced_cons (thn (hf.run pins s2 σ H2 _ I2 (show tC (.int (-c)) σ H2 (fun v H3 => v = .int (-c) ∧ H3 = H2) from ⟨rfl, rfl⟩)) fun fv s3 ⟨zz, H3, I3, rz, ev, eH⟩ => Calls.spliced_nil ?_))))
  subst ez
  subst ev
  subst eH
  obtain ⟨t, rfl⟩ := (show ∃ t, iv = Value.str z t from ry)
  obtain ⟨t2, rfl⟩ := (show ∃ t, fv = Value.int (-c) t from rz)
  have dd := PySem.W.mapOf_K (prog := X.prog) (w := X.w) I3.kIn lk lit
  obtain ⟨h1, h2⟩ := D.at_ z
  refine call_meetsIn PySem.F.slot_dict_get ⟨_, I3.kIn _ _ lk, rfl⟩ PySem.F.entry_dict_get (PySem.F.args_dict_get_3 _ _ _) (meets_dict_get_default _ D.a (PySem.strKind_is X.prog X.w z t) D.low (.int (-c) t2)) ⟨_, dd, ?_⟩
  cases el : kvs.lookup z with
  | none =>
    rw [el] at q2
    rw [PySem.W.find_K lk (h2 el)]
    exact ⟨.int (-c), H3, I3.tok _, ⟨t2, rfl⟩, q2⟩
  | some i =>
    rw [el] at q2
    obtain ⟨t3, q3⟩ := h1 i el
    rw [PySem.W.find_K lk q3]
    exact ⟨.int i, H3, I3.tok _, ⟨t3, rfl⟩, q2⟩
theorem de_gGet (D : GDic X.K X.w.params X.mg x kvs) (he : DE X e td) (m : M2 X (.Name x p) "get" apos e (.UnaryOp .USub (.Constant (.int c) j cp) cp2) pos) (hf : PE X (.UnaryOp .USub (.Constant (.int c) j cp) cp2) (tC (.int (-c)))) (hg : Gl X x := by rfl) (hdb : (x == ("__debug__" : Str)) = false := by decide) :
    DE X (.Call (.Attribute (.Name x p) "get" apos) [e, .UnaryOp .USub (.Constant (.int c) j cp) cp2] [] pos) (dGGet kvs td (-c)) := weakE (pe_gGet D hg he hf m hdb) fun σ H Q h => by
  obtain ⟨F, ρ, μ, Q', R0, S, t, k⟩ := h
  refine ⟨F, ρ, μ, _, R0, S, t, fun d μ1 t1 F1 H1 v s1 R1 r1 => ?_⟩
  unfold gGetQ at t1
  cases r1 with
  | str z => exact ⟨z, rfl, k _ μ1 t1 F1 H1 _ s1 R1 (.int _)⟩
  | _ => exact t1.elim
end
theorem pe_negc {X : Cx} {c : Int} {j : Nat} {cp cp2 : Pos} : PE X (.UnaryOp .USub (.Constant (.int c) j cp) cp2) (tC (.int (-c))) := weakE (pe_un un_neg pe_int) fun σ H Q h => ⟨c, rfl, h⟩
theorem fnG_none {P : Program} {w : World} {K : PySem.W.Frag} {mg : Str → Option Value} {base : Heap} {CX : CXT} {k : Nat} {f : Addr} {fd : FuncData} {ps : List Str} {sp : DSpX} (h : ∀ ds μ Q E, sp ds μ Q E → False) : FnG P w K mg base CX k f fd ps (LSpX K sp) :=
  (FnG.no f fd ps).imp fun vs H Q E z => by
    obtain ⟨F, μ, ds, Q', E', R, r, q, _⟩ := z
    exact h _ _ _ _ q
theorem fnG_noneC {P : Program} {w : World} {K : PySem.W.Frag} {mg : Str → Option Value} {base : Heap} {CX : CXT} {k : Nat} {f : Addr} {fd : FuncData} {ps : List Str} {sp : DSp} (h : ∀ ds μ Q E, sp ds μ Q E → False) : FnG P w K mg base CX k f fd ps (LSp K sp) :=
  (FnG.no f fd ps).imp fun vs H Q E z => by
    obtain ⟨F, μ, ds, Q', E', R, r, q, _⟩ := z
    exact h _ _ _ _ q
section
variable {X : Cx} {CX : CXT} {k : Nat} {f : Addr} {fd : FuncData} {ps : List Str} {sp : Sp} {dvs : List V} {ds : List Value} {E : XK}
theorem call_gAt {pins : List (Addr × Obj)} {σ : L2.St} {H : Hp} {s : Shared} {Q : VK} {us : List Value} {vs : List V} (F : FnG X.prog X.w X.K X.mg X.base CX k f fd ps sp) (hq : Quiet X.A) (hr : Room k X.A) (hb : Binds X.K fd ps ds) (hd : Vals dvs ds) (hx : ∀ (e : Value) (s' : Shared), CX X.stack H s E e s' → X.xe e s')
    (I : Inv X pins σ H s) (r : Vals vs us) (h : sp (vs ++ dvs) H Q E) : wpAny (model X.prog X.w) X.A (call (.ref f) us) (EP X pins σ Q) X.xe s := by
  have r2 := r.append hd
  have count : (us ++ ds).length = ps.length := r2.length.symm.trans (F.len _ _ _ _ h)
  refine wpAny_call (codeAny_mono (codeAny_mono (F.go X.A X.stack s H ⟨us, []⟩ _ _ Q E hq hr I.env0 (hb s us I.kIn count) r2 h) fun out s' z => (?_ : GEnd X pins σ Q out s')) fun out s' z => ?_)
  · match out, z with
    | .error u, z => exact hx u s' z
    | .ok (.ret u), z => exact I.after z
    | .ok .next, z => exact False.elim z
    | .ok .brk, z => exact False.elim z
    | .ok .cont, z => exact False.elim z
  · match out, z with
    | .error _, z => exact z
    | .ok (.ret _), z => exact z
    | .ok .next, z => exact False.elim z
    | .ok .brk, z => exact False.elim z
    | .ok .cont, z => exact False.elim z
end
section
variable {X : Cx} {W : WX} {x m qual : Str} {st : Stmt} {ps : List Str} {k n : Nat} {e o : Expr} {es : List Expr} {te to : DTE} {t : DTA} {p pos apos : Pos} {sp : DSpX}
/-- o.m(e, ..) where what leaves is told of with the slots -/
theorem pe_methAt {D : OCls X.K X.mg x} {M : MDef D m qual st ps} (G : FnMX X.prog X.w X.base M k sp) (hq : Quiet X.A) (hr : Room n X.A) (tk : Takes X W) (he : DE X o to) (ha : DA X (e :: es) t) (hk : k ≤ n := by omega)
    (hst : starEach (e :: es) X.env = (false, eval e X.env) :: starEach es X.env := by rfl) (hpl : (backTo pos (starEach es X.env)).any (·.1) = false := by rfl) {pl : Sem Bool}
    (ht : eval (.Call (.Attribute o m apos) (e :: es) [] pos) X.env = (do
      let ov ← eval o X.env
      standAt apos.atName
      let (f, first) ← holding [ov] (getMethod ov m pl)
      callWith pos f first (backTo pos (starEach (e :: es) X.env)) (backToKw pos (keywordEach [] X.env))) := by rfl) :
    PE X (.Call (.Attribute o m apos) (e :: es) [] pos) (fun σ H Q => ∃ F ρ μ Q' Ex, HReal X.K F H μ ∧ Slots X.K F σ ρ ∧ dMethX x m sp Ex to t ρ μ Q' ∧
      (∀ d μ', Q' d μ' → ∀ F' H' v, Stp F H μ F' H' μ' → HReal X.K F' H' μ' → RepS X.K F' d v → Q v H') ∧ ∀ cls d H', EX X.K (Stp F H μ) Ex cls d H' → W cls d σ H') := by
  refine ⟨fun pins s σ H Q I h => ?_⟩
  obtain ⟨F, ρ, μ, Q', Ex, R, S, t0, kk, kx⟩ := h
  refine PySem.W.methodCall_KW (pl := pl) (thn (he.run pins s σ H (fun v H1 => ∃ a d F1 μ1, v = .ref a ∧ RepS X.K F1 d v ∧ Stp F H μ F1 H1 μ1 ∧ HReal X.K F1 H1 μ1 ∧ (∃ dx vs, H1 a = some (.ins D.C dx vs) ∧ vs.lookup m = none) ∧ t ρ μ1 fun ds μ2 => sp (d :: ds) μ2 Q' Ex) I ⟨F, ρ, μ, _, R, S, t0, fun d μ1 t1 F1 H1 v s1 R1 r1 => ?_⟩) fun u s1 z => ?_) ht
  · unfold mQ at t1
    cases r1 with
    | ref a =>
      simp only at t1
      split at t1
      · rename_i z fs e1
        obtain ⟨rfl, hl, t1⟩ := t1
        obtain ⟨dx, vs, h1, h2, h3⟩ := R1.obj D e1
        exact ⟨a, _, F1, μ1, rfl, .ref a, s1, R1, ⟨dx, vs, h1, look_none h2 hl⟩, t1⟩
      · exact t1.elim
    | _ => exact t1.elim
  · obtain ⟨v, H1, I1, rx, a, d, F1, μ1, rfl, rd, sa, R1, ⟨dx, vs, h1, h2⟩, t1⟩ := z
    obtain rfl : u = Value.ref a := rx
    refine getmeth_ok I1 h1 D.k.c M.me h2 ?_
    refine PySem.W.callWith_K (first := [.ref a]) (h₀ := X.base) I.ok.mod.kin M.me.kp (thn (ha.run pos pins s1 σ H1 (fun vs H2 => ∃ F2 μ2 ds, Stp F1 H1 μ1 F2 H2 μ2 ∧ HReal X.K F2 H2 μ2 ∧ RepL X.K F2 ds vs ∧ sp (d :: ds) μ2 Q' Ex) I1
      ⟨F1, ρ, μ1, _, R1, S.mono sa.ext, t1, fun ds μ2 t2 F2 H2 vs s2 R2 r2 => ⟨F2, μ2, ds, s2, R2, r2, t2⟩⟩) fun us s2 z => ?_) hst hpl
    obtain ⟨ws, H2, I2, r, F2, μ2, ds, s2', R2, r2, t2⟩ := z
    refine ⟨I2.kIn, ?_⟩
    refine call_gAt (us := .ref a :: us) (vs := .ref a :: ws) (dvs := []) (ds := []) (E := fun cls od H' => W cls od σ H') G hq (hr.mono hk) M.b .nil (fun e' s' c => tk e' s' (XE.of_call I2 (fun _ _ _ h => h) c)) I2 (.cons rfl r) ?_
    rw [List.append_nil]
    exact ⟨F2, μ2, d :: ds, Q', Ex, R2, .cons (rd.mono s2'.ext) r2, t2, fun d' μ' q F' H' v s' R' r' => kk d' μ' q F' H' v ((sa.trans s2').trans s') R' r', fun cls od H' z => kx cls od H' (z.mono fun _ _ _ s => (sa.trans s2').trans s)⟩
end
/-- try: o.m(e, ..) / except .. as (slot i): slot j = the error -/
def dTryM (body : DXX → DTE) (kx : Str → Option Bool) (i j : Nat) : DTS := fun D ρ μ => i < ρ.length ∧ body (fun x fs μ1 => kx x = some true ∧
  D.nx (((ρ.set i (some (.exc x fs))).set j (some (.exc x fs))).set i none) μ1) ρ μ (fun _ μ1 => D.nx ρ μ1)
section
variable {X : Cx} {x m qual : Str} {st : Stmt} {ps : List Str} {k kn : Nat} {e o : Expr} {es : List Expr} {te to : DTE} {t : DTA} {sp : DSpX} {c nm cn : Str} {cv : Value} {i j : Nat} {kx : Str → Option Bool} {np p1 p2 p4 p5 p6 p7 pos' pos : Pos}
theorem ds_tryM {D : OCls X.K X.mg x} {M : MDef D m qual st ps} (G : FnMX X.prog X.w X.base M k sp) (hq : Quiet X.A) (hr : Room kn X.A) (hs : X.stack = X.env :: X.outer) (hf : X.env.frame = some X.env.locals) (hex : X.ex = []) (hN : X.N.Nodup) (hc : Names X c cv)
    (hkx : ∀ x b C, kx x = some b → PySem.W.nsIn X.K mainGlobals x = some (some (.ref C)) → PySem.W.exmOne X.K (.ref C) cv = some b)
    (hi : X.N[i]? = some nm) (hj : X.N[j]? = some cn) (hln : X.env.kindOf nm = some .local) (hlj : Loc X.env.scope cn) (hlvn : Vis X.env.scope nm)
    (he : ∀ (pn : List (Addr × Obj)) (xe : Value → Shared → Prop), DE (X.tr pn xe) o to) (ha : ∀ (pn : List (Addr × Obj)) (xe : Value → Shared → Prop), DA (X.tr pn xe) (e :: es) t) (hk : k ≤ kn := by omega)
    (hst : ∀ (pn : List (Addr × Obj)) (xe : Value → Shared → Prop), starEach (e :: es) (X.tr pn xe).env = (false, eval e (X.tr pn xe).env) :: starEach es (X.tr pn xe).env := by intros; rfl) (hpl : ∀ (pn : List (Addr × Obj)) (xe : Value → Shared → Prop), (backTo p2 (starEach es (X.tr pn xe).env)).any (·.1) = false := by intros; rfl) {pl : List (Addr × Obj) → (Value → Shared → Prop) → Sem Bool}
    (ht : ∀ (pn : List (Addr × Obj)) (xe : Value → Shared → Prop), eval (.Call (.Attribute o m p1) (e :: es) [] p2) (X.tr pn xe).env = (do
      let ov ← eval o (X.tr pn xe).env
      standAt p1.atName
      let (f, first) ← holding [ov] (getMethod ov m (pl pn xe))
      callWith p2 f first (backTo p2 (starEach (e :: es) (X.tr pn xe).env)) (backToKw p2 (keywordEach [] (X.tr pn xe).env))) := by intros; rfl)
    (hfj : X.fn cn = true ∨ X.env.scope.names.lookup cn = some .local := by first | exact .inl rfl | exact .inr rfl)
    (hsw2 : swapsWith (.Name nm p5) (some (.Name cn p6)) p7.line X.env = pure false := by rfl)
    (hnd : (nm == ("__debug__" : Str)) = false := by decide) (hncd : (nm == ("__classdict__" : Str)) = false := by decide) :
    DS_ X (.Try [.Expr (.Call (.Attribute o m p1) (e :: es) [] p2) p4] [.ExceptHandler (some (.Name c np)) (some nm) [.Assign [.Name cn p6] (.Name nm p5) p7] pos'] [] [] pos) (dTryM (fun Ex => dMethX x m sp Ex to t) kx i j) := by
  refine weakS (ps_try_trk (c := cv) (i := i) (Wout := fun _ _ _ _ => False) (ts := fun _ _ _ D σ H => tVar i σ H fun w H' => D.nx (σ.set j (some w)) H')
    (tb := fun W D σ H => ∃ F ρ μ Q' Ex, HReal X.K F H μ ∧ Slots X.K F σ ρ ∧ dMethX x m sp Ex to t ρ μ Q' ∧
      (∀ d μ', Q' d μ' → ∀ F' H' w, Stp F H μ F' H' μ' → HReal X.K F' H' μ' → RepS X.K F' d w → D.nx σ H') ∧ ∀ cls d H', EX X.K (Stp F H μ) Ex cls d H' → W cls d σ H')
    hs hf hex hN hi hln hc L2.takes0 (fun W pn xe tk _ => ?_) (fun ea oe cls d pn _ _ => ?_)) fun D σ H h => ?_
  · exact pss_one (ps_expr (X := X.tr pn xe) (pe_methAt (X := X.tr pn xe) (D := D) (M := M) G hq hr tk (he pn xe) (ha pn xe) hk (hst pn xe) (hpl pn xe) (ht pn xe)))
  · exact pss_one (ps_set (X := X.suite ea ((ea, oe) :: pn)) hN hj hlj (pe_var (X := X.suite ea ((ea, oe) :: pn)) hi hlvn hnd hncd) hsw2 hfj)
  · obtain ⟨F, ρ, μ, D', R, S, ⟨hl, t⟩, kn', _⟩ := h
    refine ⟨F, ρ, μ, _, _, R, S, t, fun d μ' q F' H' w s R' r' => kn' _ μ' q F' H' _ s R' (S.mono s.ext), fun cls od H' z => ?_⟩
    obtain ⟨F', μ', C, x, fs, rfl, s, R', xc, xr, e, q⟩ := z
    refine ⟨true, hkx x true C e xc.at_, fun _ => ⟨C, rfl, fun a' na => ?_⟩, fun z => by cases z⟩
    have SA' := Stp.newS R' (o := exq a' C od) na
    have RA := R'.newS (o := exq a' C od) na
    have rr := rep_err R' xc xr na
    refine ⟨.ref a', List.getElem?_set_self (by rw [S.len]; exact hl), ?_⟩
    exact kn' _ μ' q _ _ _ (s.trans SA') RA ((((S.mono (s.trans SA').ext).set i rr).set j rr).setN i)
end
end DS
namespace MA
open PySem PySem.Spec PyProof.Rows L2 DS
structure Good (d : SD) (p : PyData) (D B : Nat) : Prop where
  e : pdS d = some p
  cl : p.canLay0 = true
  dp : p.depth ≤ D
  sh : p.showable = true
  ls : p.leavesShort 13 = true
  bk : p.bulk ≤ B
structure GoodL (ds : List SD) (ps : List PyData) (D B : Nat) : Prop where
  e : pdL ds = some ps
  cl : PyData.canLayAll0 ps = true
  dp : PyData.depthAll ps ≤ D
  sh : PyData.showableAll ps = true
  ls : PyData.leavesShortAll 13 ps = true
  bk : PyData.bulkAll ps ≤ B
theorem Good.mono {d p D B D' B'} (g : Good d p D B) (h1 : D ≤ D') (h2 : B ≤ B') : Good d p D' B' := ⟨g.e, g.cl, Nat.le_trans g.dp h1, g.sh, g.ls, Nat.le_trans g.bk h2⟩
theorem GoodL.mono {d p D B D' B'} (g : GoodL d p D B) (h1 : D ≤ D') (h2 : B ≤ B') : GoodL d p D' B' := ⟨g.e, g.cl, Nat.le_trans g.dp h1, g.sh, g.ls, Nat.le_trans g.bk h2⟩
theorem Good.non : Good .non .none 0 0 := ⟨rfl, by simp [PyData.canLay0], by simp [PyData.depth], by simp [PyData.showable], by simp [PyData.leavesShort], by simp [PyData.bulk]⟩
theorem Good.bl (b : Bool) : Good (.bl b) (.bool b) 0 0 := ⟨rfl, by simp [PyData.canLay0], by simp [PyData.depth], by simp [PyData.showable], by simp [PyData.leavesShort], by simp [PyData.bulk]⟩
theorem Good.str {x : Str} (h : PyData.strOk x = true) : Good (.str x) (.str x) 0 x.cps.size := by
  refine ⟨rfl, by simp [PyData.canLay0, h], by simp [PyData.depth], by simp [PyData.showable], ?_, by simp [PyData.bulk]⟩
  unfold PyData.leavesShort
  rw [List.all_eq_true]
  intro c hc
  have := (Array.all_eq_true_iff_forall_mem.mp h) c (by simpa using hc)
  simp at this ⊢
  omega
theorem GoodL.nil : GoodL [] [] 0 0 := ⟨rfl, by simp [PyData.canLayAll0], by simp [PyData.depthAll], by simp [PyData.showableAll], by simp [PyData.leavesShortAll], by simp [PyData.bulkAll]⟩
theorem GoodL.cons {d ds p ps D B C} (g : Good d p D B) (h : GoodL ds ps D C) : GoodL (d :: ds) (p :: ps) D (B + 1 + C) := by
  refine ⟨by rw [pdL, g.e, h.e], by simp [PyData.canLayAll0, g.cl, h.cl], ?_, by simp [PyData.showableAll, g.sh, h.sh], by simp [PyData.leavesShortAll, g.ls, h.ls], ?_⟩
  · have := g.dp; have := h.dp; rw [PyData.depthAll]; omega
  · have := g.bk; have := h.bk; rw [PyData.bulkAll]; omega
theorem Good.tup {ds ps D B} (h : GoodL ds ps D B) : Good (.tup ds) (.tuple ps) (D + 1) B :=
  ⟨by rw [pdS, h.e], by simp [PyData.canLay0, h.cl], by rw [PyData.depth]; exact Nat.succ_le_succ h.dp, by simp [PyData.showable, h.sh], by simp [PyData.leavesShort, h.ls], by rw [PyData.bulk]; exact h.bk⟩
theorem Good.lst {ds ps D B} (h : GoodL ds ps D B) : Good (.lst ds) (.list ps) (D + 1) B :=
  ⟨by rw [pdS, h.e], by simp [PyData.canLay0, h.cl], by rw [PyData.depth]; exact Nat.succ_le_succ h.dp, by simp [PyData.showable, h.sh], by simp [PyData.leavesShort, h.ls], by rw [PyData.bulk]; exact h.bk⟩
theorem GoodL.append {D B C} : ∀ {ds ps es qs}, GoodL ds ps D B → GoodL es qs D C → GoodL (ds ++ es) (ps ++ qs) D (B + C)
  | [], _, _, _, g, h => by
    have e := g.e; rw [pdL] at e; cases e
    exact h.mono (Nat.le_refl _) (by omega)
  | d :: ds, ps0, es, qs, g, h => by
    have e := g.e
    rw [pdL] at e
    split at e
    · rename_i p ps e1 e2
      cases e
      have cl := g.cl; have sh := g.sh; have ls := g.ls; have dp := g.dp; have bk := g.bk
      simp only [PyData.canLayAll0, Bool.and_eq_true] at cl
      simp only [PyData.showableAll, Bool.and_eq_true] at sh
      simp only [PyData.leavesShortAll, Bool.and_eq_true] at ls
      rw [PyData.depthAll] at dp
      rw [PyData.bulkAll] at bk
      have g1 : Good d p D p.bulk := ⟨e1, cl.1, by omega, sh.1, ls.1, Nat.le_refl _⟩
      have g2 : GoodL ds ps D (PyData.bulkAll ps) := ⟨e2, cl.2, by omega, sh.2, ls.2, Nat.le_refl _⟩
      exact (GoodL.cons g1 (GoodL.append g2 h)).mono (Nat.le_refl _) (by omega)
    · cases e
/-- each of so many good ones -/
theorem GoodL.of {D B} : ∀ {ds : List SD}, (∀ d ∈ ds, ∃ p, Good d p D B) → ∃ ps, GoodL ds ps D (ds.length * (B + 1))
  | [], _ => ⟨[], GoodL.nil.mono (Nat.zero_le _) (Nat.zero_le _)⟩
  | d :: ds, h => by
    obtain ⟨p, g⟩ := h d (List.mem_cons_self ..)
    obtain ⟨ps, gs⟩ := GoodL.of fun x hx => h x (List.mem_cons_of_mem _ hx)
    exact ⟨p :: ps, (GoodL.cons g gs).mono (Nat.le_refl _) (by rw [List.length_cons, Nat.add_mul]; omega)⟩
theorem Good.shaped {d p D B} (g : Good d p D B) (h : D ≤ 64) : SeqAt.shaped p = true := by
  unfold SeqAt.shaped
  rw [g.cl, Bool.true_and, decide_eq_true_eq]
  exact Nat.le_trans g.dp h
theorem Good.notref {d p D B} (g : Good d p D B) (μ : Mu) : pd μ d = some p := by
  have e := g.e
  cases d <;> first | exact e | (simp [pdS] at e)
theorem Good.repr {d p D B μ} {Q : SD → Mu → Prop} (g : Good d p D B) (h1 : D ≤ 64) (h2 : B ≤ 2 ^ 20) (q : Q (.str p.shown) μ) : drRepr [d] μ Q := by
  unfold drRepr
  simp only [g.notref μ]
  exact ⟨⟨g.sh, PyData.shown_fits_bulk (B := 13) (by decide) (by decide) g.ls (Nat.le_trans g.bk h2), Nat.le_trans g.dp h1⟩, q⟩
theorem eq_nil {μ : Mu} {a : Addr} {xs ps D B} (h : μ a = some (.lst xs)) (g : GoodL xs ps D B) (hD : D < 64) : eqD μ (.ref a) (.lst []) = some (decide (xs = [])) := by
  have e1 : pd μ (.ref a) = some (.list ps) := by simp [pd, h, g.e]
  have e2 : pd μ (.lst []) = some (.list []) := by simp [pd, pdS, pdL]
  have s1 : SeqAt.shaped (.list ps) = true := by
    unfold SeqAt.shaped
    rw [PyData.depth, PyData.canLay0, g.cl, Bool.true_and, decide_eq_true_eq]
    have := g.dp; omega
  have s2 : SeqAt.shaped (.list []) = true := by decide
  show (match pd μ (.ref a), pd μ (.lst []) with
    | some p, some q => if SeqAt.shaped p = true ∧ SeqAt.shaped q = true then some (PyData.eqv p q) else none
    | _, _ => none) = _
  rw [e1, e2]
  show (if SeqAt.shaped (.list ps) = true ∧ SeqAt.shaped (.list []) = true then some (PyData.eqv (.list ps) (.list [])) else none) = _
  rw [if_pos ⟨s1, s2⟩, PyData.eqv]
  have e := g.e
  cases xs with
  | nil => rw [pdL] at e; cases e; rfl
  | cons x xs =>
    rw [pdL] at e
    split at e
    · cases e; rfl
    · cases e
section
variable {α : Type} {k k' : Key} {v : α}
theorem valD_nil : valD ([] : List (Key × α)) k = none := rfl
theorem valD_cons {kv : Key × α} {r : List (Key × α)} : valD (kv :: r) k = if kv.1 = k then some kv.2 else valD r k := by
  unfold valD
  rw [List.find?_cons]
  by_cases h : kv.1 = k
  · simp [h]
  · simp [h]
end
def Le (μ μ' : Mu) : Prop := ∀ a m, μ a = some m → μ' a = some m
theorem Le.refl (μ : Mu) : Le μ μ := fun _ _ h => h
theorem Le.trans {μ μ1 μ2 : Mu} (h : Le μ μ1) (k : Le μ1 μ2) : Le μ μ2 := fun a m e => k a m (h a m e)
theorem Le.up {μ0 μ : Mu} {p : Addr} {m : MO} (h : Le μ0 μ) (hp : μ0 p = none) : Le μ0 (up μ p m) := fun a n e => by
  have : a ≠ p := fun z => by subst z; rw [hp] at e; cases e
  rw [up_ne this]; exact h a n e
theorem Le.rm {μ0 μ : Mu} {p : Addr} (h : Le μ0 μ) (hp : μ0 p = none) : Le μ0 (rm μ p) := fun a n e => by
  have : a ≠ p := fun z => by subst z; rw [hp] at e; cases e
  rw [rm_ne this]; exact h a n e
theorem Le.none {μ0 μ : Mu} {p : Addr} (h : Le μ0 μ) (hp : μ p = none) : μ0 p = none := by
  cases e : μ0 p with
  | none => rfl
  | some m => rw [h p m e] at hp; cases hp
/-- all but what stands at h stays -/
def LeX (h : Addr) (μ μ' : Mu) : Prop := ∀ a m, a ≠ h → μ a = some m → μ' a = some m
theorem LeX.refl (h : Addr) (μ : Mu) : LeX h μ μ := fun _ _ _ e => e
theorem Le.x {μ μ' : Mu} (h : Addr) (l : Le μ μ') : LeX h μ μ' := fun a m _ e => l a m e
theorem LeX.trans {h : Addr} {μ μ1 μ2 : Mu} (a : LeX h μ μ1) (b : LeX h μ1 μ2) : LeX h μ μ2 := fun x m n e => b x m n (a x m n e)
theorem LeX.put {h : Addr} {μ0 μ : Mu} {m : MO} (l : LeX h μ0 μ) : LeX h μ0 (up μ h m) := fun a n z e => by rw [up_ne z]; exact l a n z e
theorem LeX.up {h p : Addr} {μ0 μ : Mu} {m : MO} (l : LeX h μ0 μ) (hp : μ0 p = none) : LeX h μ0 (up μ p m) := fun a n z e => by
  have : a ≠ p := fun z => by subst z; rw [hp] at e; cases e
  rw [up_ne this]; exact l a n z e
theorem LeX.rm {h p : Addr} {μ0 μ : Mu} (l : LeX h μ0 μ) (hp : μ0 p = none) : LeX h μ0 (rm μ p) := fun a n z e => by
  have : a ≠ p := fun z => by subst z; rw [hp] at e; cases e
  rw [rm_ne this]; exact l a n z e
end MA
namespace MA
open PySem PySem.Spec PyProof.Rows L2 DS
inductive T where
  | node (k : Str) (cs : List T)
def T.key : T → Str
  | .node k _ => k
mutual
def enc : T → SD
  | .node k cs => .tup [.str k, .tup (encL cs)]
def encL : List T → List SD
  | [] => []
  | t :: r => enc t :: encL r
end
mutual
def pre : T → List Str
  | .node k cs => k :: preL cs
def preL : List T → List Str
  | [] => []
  | t :: r => pre t ++ preL r
end
mutual
def dep : T → Nat
  | .node _ cs => depL cs + 1
def depL : List T → Nat
  | [] => 0
  | t :: r => max (dep t) (depL r)
end
theorem encL_map : ∀ ts : List T, encL ts = ts.map enc
  | [] => by rw [encL]; rfl
  | t :: r => by rw [encL, encL_map r]; rfl
theorem encL_append (a b : List T) : encL (a ++ b) = encL a ++ encL b := by simp [encL_map]
theorem encL_reverse (a : List T) : encL a.reverse = (encL a).reverse := by simp [encL_map]
theorem encL_length (a : List T) : (encL a).length = a.length := by simp [encL_map]
theorem preL_append : ∀ a b : List T, preL (a ++ b) = preL a ++ preL b
  | [], b => by rw [List.nil_append, preL]; rfl
  | t :: r, b => by rw [List.cons_append, preL, preL, preL_append r b, List.append_assoc]
theorem preL_mem {ts : List T} {k : Str} : k ∈ preL ts ↔ ∃ t ∈ ts, k ∈ pre t := by
  induction ts with
  | nil => simp [preL]
  | cons t r ih => rw [preL, List.mem_append, ih]; simp
theorem preL_reverse_len (a : List T) : (preL a.reverse).length = (preL a).length := by
  induction a with
  | nil => rfl
  | cons t r ih => rw [List.reverse_cons, preL_append, List.length_append, ih, preL, preL, preL, List.length_append]; simp; omega
theorem depL_mem {ts : List T} {t : T} (h : t ∈ ts) : dep t ≤ depL ts := by
  induction ts with
  | nil => cases h
  | cons u r ih =>
    rw [depL]
    rcases List.mem_cons.mp h with rfl | h
    · exact Nat.le_max_left _ _
    · exact Nat.le_trans (ih h) (Nat.le_max_right _ _)
theorem depL_le {ts : List T} {n : Nat} (h : ∀ t ∈ ts, dep t ≤ n) : depL ts ≤ n := by
  induction ts with
  | nil => rw [depL]; exact Nat.zero_le _
  | cons u r ih => rw [depL]; exact Nat.max_le.mpr ⟨h u (List.mem_cons_self ..), ih fun t ht => h t (List.mem_cons_of_mem _ ht)⟩
theorem key_mem (t : T) : t.key ∈ pre t := by cases t; rw [pre]; exact List.mem_cons_self ..
theorem preL_sub {ts : List T} {t : T} (h : t ∈ ts) : ∀ k ∈ pre t, k ∈ preL ts := fun k hk => preL_mem.mpr ⟨t, h, hk⟩
theorem preL_len {ts : List T} {t : T} (h : t ∈ ts) : (pre t).length ≤ (preL ts).length := by
  induction ts with
  | nil => cases h
  | cons u r ih =>
    rw [preL, List.length_append]
    rcases List.mem_cons.mp h with rfl | h
    · omega
    · have := ih h; omega
theorem pre_pos (t : T) : 0 < (pre t).length := by cases t; rw [pre]; simp
theorem len_le_preL : ∀ ts : List T, ts.length ≤ (preL ts).length
  | [] => by simp
  | t :: r => by have := pre_pos t; have := len_le_preL r; rw [preL, List.length_append, List.length_cons]; omega
def KeyOk (k : Str) : Prop := PyData.strOk k = true ∧ k.cps.size ≤ 61
structure TOk (t : T) : Prop where
  len : (pre t).length ≤ 1000
  dep : dep t ≤ 30
  keys : ∀ k ∈ pre t, KeyOk k
mutual
theorem enc_good : ∀ t : T, (∀ k ∈ pre t, KeyOk k) → ∃ p, Good (enc t) p (2 * dep t) (64 * (pre t).length - 1)
  | .node k cs, h => by
    rw [pre] at h
    obtain ⟨ps, gs⟩ := encL_good cs fun x hx => h x (List.mem_cons_of_mem _ hx)
    obtain ⟨k1, k2⟩ := h k (List.mem_cons_self ..)
    rw [enc, dep, pre]
    have g1 := Good.tup gs
    have g2 := GoodL.cons (g1.mono (Nat.le_refl _) (Nat.le_refl _)) (GoodL.nil.mono (Nat.zero_le _) (Nat.le_refl _))
    have g3 := GoodL.cons ((Good.str k1).mono (Nat.zero_le _) (Nat.le_refl _)) g2
    refine ⟨_, (Good.tup g3).mono (by omega) ?_⟩
    rw [List.length_cons]; omega
theorem encL_good : ∀ ts : List T, (∀ k ∈ preL ts, KeyOk k) → ∃ ps, GoodL (encL ts) ps (2 * depL ts) (64 * (preL ts).length)
  | [], _ => ⟨[], GoodL.nil.mono (Nat.zero_le _) (Nat.zero_le _)⟩
  | t :: r, h => by
    rw [preL] at h
    obtain ⟨p, g⟩ := enc_good t fun x hx => h x (List.mem_append_left _ hx)
    obtain ⟨ps, gs⟩ := encL_good r fun x hx => h x (List.mem_append_right _ hx)
    have := pre_pos t
    refine ⟨p :: ps, ?_⟩
    rw [encL, depL, preL]
    refine (GoodL.cons (g.mono (by omega) (Nat.le_refl _)) (gs.mono (by omega) (Nat.le_refl _))).mono (Nat.le_refl _) ?_
    rw [List.length_append]; omega
end
theorem TOk.good {t : T} (h : TOk t) : ∃ p, Good (enc t) p 60 64000 := by
  obtain ⟨p, g⟩ := enc_good t h.keys
  have := h.len; have := h.dep
  exact ⟨p, g.mono (by omega) (by omega)⟩
mutual
def Fits (f : Str → List Str) : T → Prop
  | .node k cs => f k = cs.map T.key ∧ FitsL f cs
def FitsL (f : Str → List Str) : List T → Prop
  | [] => True
  | t :: r => Fits f t ∧ FitsL f r
end
theorem FitsL_mem {f : Str → List Str} {ts : List T} : FitsL f ts ↔ ∀ t ∈ ts, Fits f t := by
  induction ts with
  | nil => simp [FitsL]
  | cons u r ih => rw [FitsL, ih]; simp
/-- par is the parent by f, wherever t has a key -/
structure Par (f : Str → List Str) (par : Str → Option Str) (t : T) : Prop where
  fits : Fits f t
  kid : ∀ k ∈ pre t, ∀ c ∈ f k, par c = some k
  root : par t.key = none
end MA
namespace MA
open PySem PySem.Spec PyProof.Rows L2 DS
section
variable {ρ : Rho} {μ : Mu} {i : Nat} {a : Addr} {d x y : SD} {xs ys : List SD} {Q : SD → Mu → Prop} {te ti tb : DTE}
theorem r_var (h : ρ[i]? = some (some d)) (q : Q d μ) : dVar i ρ μ Q := by unfold dVar; rw [h]; exact q
theorem isSome_ref (m : μ a = some (.lst xs)) : (lstD μ (.ref a)).isSome = true := by simp [lstD, m]
theorem dm_pop (m : μ a = some (.lst (xs ++ [y]))) (q : Q y (up μ a (.lst xs))) : dmPop (.ref a) [] μ Q := by
  unfold dmPop
  have e : mlst μ (.ref a) = some (a, xs ++ [y]) := by simp [mlst, m]
  have e2 : (xs ++ [y])[(xs ++ [y]).length - 1]? = some y := by simp
  simp only [e, e2, List.dropLast_concat]
  exact ⟨trivial, q⟩
theorem dm_append (m : μ a = some (.lst xs)) (l : xs.length < sizeLine) (q : Q .non (up μ a (.lst (xs ++ [y])))) : dmAppend (.ref a) [y] μ Q := by
  unfold dmAppend
  have e : mlst μ (.ref a) = some (a, xs) := by simp [mlst, m]
  simp only [e]
  exact ⟨l, q⟩
theorem dm_extendT (m : μ a = some (.lst xs)) (l : xs.length + ys.length ≤ sizeLine) (q : Q .non (up μ a (.lst (xs ++ ys)))) : dmExtend (.ref a) [.tup ys] μ Q := by
  unfold dmExtend
  have e : mlst μ (.ref a) = some (a, xs) := by simp [mlst, m]
  simp only [e]
  exact ⟨l, q⟩
theorem dm_extendL (m : μ a = some (.lst xs)) (l : xs.length + ys.length ≤ sizeLine) (q : Q .non (up μ a (.lst (xs ++ ys)))) : dmExtend (.ref a) [.lst ys] μ Q := by
  unfold dmExtend
  have e : mlst μ (.ref a) = some (a, xs) := by simp [mlst, m]
  simp only [e]
  exact ⟨l, q⟩
theorem eq_nilR {ps D B neg} (m : μ a = some (.lst xs)) (g : GoodL xs ps D B) (hD : D < 64) (k : Q (.bl (neg != decide (xs = []))) μ) : dEq neg (.ref a) (.lst []) μ Q := by
  unfold dEq
  simp only [eq_nil m g hD]
  exact k
theorem rev_T (q : Q (.tup xs.reverse) μ) : drRev (.tup xs) μ Q := q
theorem dr_tupleL (q : Q (.tup xs) μ) : drTuple [.lst xs] μ Q := q
theorem dr_tupleR (m : μ a = some (.lst xs)) (q : Q (.tup xs) μ) : drTuple [.ref a] μ Q := by
  unfold drTuple; simp only [seqD, m]; exact q
theorem ix_at {k : Int} (e : seqD μ x = some xs) (hs : ∀ z, x ≠ .str z) (h : atI xs k = some d) (q : Q d μ) : dIx x (.int k) μ Q := by
  unfold dIx
  cases x with
  | str z => exact (hs z rfl).elim
  | _ => simp only [e, h]; exact q
theorem ix_tup {k : Int} (h : atI xs k = some d) (q : Q d μ) : dIx (.tup xs) (.int k) μ Q := ix_at rfl (fun _ z => by cases z) h q
theorem ix_lst {k : Int} (h : atI xs k = some d) (q : Q d μ) : dIx (.lst xs) (.int k) μ Q := ix_at rfl (fun _ z => by cases z) h q
theorem ix_rol {k : Int} (h : atI xs k = some d) (q : Q d μ) : dIx (.rol xs) (.int k) μ Q := ix_at rfl (fun _ z => by cases z) h q
theorem ix_ref {k : Int} (m : μ a = some (.lst xs)) (h : atI xs k = some d) (q : Q d μ) : dIx (.ref a) (.int k) μ Q := ix_at (by simp [seqD, m]) (fun _ z => by cases z) h q
theorem put_ok {kvs : List (Key × SD)} {k : Key} {v : SD} {R : Mu → Prop} (m : μ a = some (.dic kvs)) (hk : keyD y = some k) (l : kvs.length < sizeLine) (q : R (up μ a (.dic (putD kvs k v)))) : drPut (.ref a) y v μ R := by
  unfold drPut
  have e : mdic μ (.ref a) = some (a, kvs) := by simp [mdic, m]
  simp only [e, hk]
  exact ⟨l, q⟩
theorem get_ok {kvs : List (Key × SD)} {k : Key} {v : SD} (m : dicD μ x = some kvs) (hk : keyD y = some k) (h : valD kvs k = some v) (q : Q v μ) : drGet x y μ Q := by
  unfold drGet; simp only [m, hk, h]; exact q
theorem din_ok {kvs : List (Key × SD)} {k : Key} {neg : Bool} (m : dicD μ x = some kvs) (hk : keyD y = some k) (q : Q (.bl (neg != (valD kvs k).isSome)) μ) : drDIn neg x y μ Q := by
  unfold drDIn; simp only [m, hk]; exact q
theorem dicD_ref {kvs : List (Key × SD)} (m : μ a = some (.dic kvs)) : dicD μ (.ref a) = some kvs := by simp [dicD, m]
/-- for x in t, t a tuple -/
theorem for_T {g : DTG} {tb : DTS} {D : DEnds} (h : ρ[i]? = some (some (.tup xs))) (k : ∃ W : Nat → Rho → Mu → Prop, W 0 ρ μ ∧ (∀ i d ρ μ, xs[i]? = some d → W i ρ μ → g d ρ μ fun ρ2 μ2 => tb { D with nx := W (i + 1), ct := W (i + 1), bk := D.nx } ρ2 μ2) ∧ ∀ ρ μ, W xs.length ρ μ → D.nx ρ μ) : dFor (jSeq (dVar i)) g tb D ρ μ := by
  obtain ⟨W, h0, hs, hf⟩ := k
  unfold dFor
  refine r_var h ?_
  exact ⟨W, h0, fun _ _ _ _ _ => rfl, hs, hf⟩
theorem ifT {c : Bool} {A B : Prop} (hc : c = true) (h : A) : if c = true then A else B := by rw [if_pos hc]; exact h
theorem ifF {c : Bool} {A B : Prop} (hc : c = false) (h : B) : if c = true then A else B := by rw [if_neg (by rw [hc]; exact Bool.false_ne_true)]; exact h
theorem lt_line {n m : Nat} (h : n ≤ m) (h2 : m ≤ 1000000) : n < sizeLine := by rw [sizeLine_eq]; omega
theorem le_line {n m : Nat} (h : n ≤ m) (h2 : m ≤ 1000000) : n ≤ sizeLine := by rw [sizeLine_eq]; omega
/-- a comprehension that changes nothing -/
theorem lc_pure {ds zs : List SD} {ok : Mu → Prop} {j : Nat} {R : List SD → Mu → Prop} (hok : ok μ) (hl : ds.length ≤ 1000000) (hy : zs.length = ds.length) (el : ∀ (i : Nat) (d y : SD), ds[i]? = some d → zs[i]? = some y → ∀ R : SD → Mu → Prop, R y μ → te ((wipeR ρ [j]).set j (some d)) μ R) (q : R zs μ) :
    ds.length ≤ sizeLine ∧ ∃ W : Nat → List SD → Mu → Prop, W 0 [] μ ∧ (∀ i acc μ', i ≤ ds.length → W i acc μ' → ok μ') ∧ (∀ i d acc μ', ds[i]? = some d → W i acc μ' → hName j d (wipeR ρ [j]) μ' fun ρ2 μ2 => dYes ρ2 μ2 fun b μ3 => if b = true then te ρ2 μ3 fun y μ4 => W (i+1) (acc ++ [y]) μ4 else W (i+1) acc μ3) ∧ ∀ acc μ', W ds.length acc μ' → R acc μ' := by
  refine ⟨le_line hl (Nat.le_refl _), fun i acc μ' => acc = zs.take i ∧ μ' = μ, ⟨rfl, rfl⟩, ?_, ?_, ?_⟩
  · rintro i acc μ' _ ⟨_, rfl⟩; exact hok
  · rintro i d acc μ' hd ⟨rfl, rfl⟩
    have hi := (List.getElem?_eq_some_iff.mp hd).1
    have hz : zs[i]? = some zs[i] := List.getElem?_eq_getElem (by omega)
    refine ifT rfl (el i d _ hd hz _ ⟨?_, rfl⟩)
    rw [List.take_succ, hz]; rfl
  · rintro acc μ' ⟨rfl, rfl⟩
    rw [List.take_of_length_le (by omega)]; exact q
theorem isi_of {n t : String} {b : Bool} (ht : tyD μ d = some t) (hb : kitB t n = some b) (q : Q (.bl b) μ) : drIsi [d, .ty n] μ Q := by
  unfold drIsi
  have : isiB μ d n = some b := by unfold isiB; simp only [ht, hb]
  simp only [this]; exact q
theorem inS_sts {o : Str} {l : List Str} : inS (.str o) (l.map SD.str) = decide (o ∈ l) := by
  unfold inS
  rw [Bool.eq_iff_iff, List.any_eq_true, decide_eq_true_eq]
  constructor
  · rintro ⟨x, hx, e⟩
    obtain ⟨y, hy, rfl⟩ := List.mem_map.mp hx
    have : y = o := by simpa [eqA, DS.plain, eqV] using e
    subst this; exact hy
  · intro h
    exact ⟨.str o, List.mem_map.mpr ⟨o, h, rfl⟩, by simp [eqA, DS.plain, eqV]⟩
theorem flat_sts {l : List Str} : (l.map SD.str).all flatD = true := by
  rw [List.all_eq_true]
  intro x hx
  obtain ⟨y, hy, rfl⟩ := List.mem_map.mp hx
  rfl
theorem in_sts {neg : Bool} {o : Str} {l : List Str} (e : seqD μ y = some (l.map SD.str)) (hs : ∀ z, y ≠ .str z) (q : Q (.bl (neg != decide (o ∈ l))) μ) : dIn neg (.str o) y μ Q := by
  unfold dIn
  cases y with
  | str z => exact (hs z rfl).elim
  | _ => simp only [e]; exact ⟨⟨rfl, flat_sts⟩, by rw [inS_sts]; exact q⟩
variable {m n : Int}
theorem i_add (q : Q (.int (m + n)) μ) : dAdd (.int m) (.int n) μ Q := q
theorem i_sub (q : Q (.int (m - n)) μ) : dSub (.int m) (.int n) μ Q := q
theorem i_mul (h : IntMulOk m n) (q : Q (.int (m * n)) μ) : dMul (.int m) (.int n) μ Q := ⟨h, q⟩
theorem i_mod (h : 0 < n) (q : Q (.int (m % n)) μ) : dMod (.int m) (.int n) μ Q := ⟨h, q⟩
theorem i_div (h : CDivW m n) (q : Q (.int (m / n)) μ) : dDiv (.int m) (.int n) μ Q := ⟨h, q⟩
theorem i_pow (h : CPowW m n) (q : Q (.int (m ^ n.toNat)) μ) : dPow (.int m) (.int n) μ Q := ⟨h, q⟩
theorem i_lt (q : Q (.bl (decide (m < n))) μ) : dLt (.int m) (.int n) μ Q := q
theorem i_gt (q : Q (.bl (decide (n < m))) μ) : dGt (.int m) (.int n) μ Q := q
theorem i_le (q : Q (.bl (decide (m ≤ n))) μ) : dLe (.int m) (.int n) μ Q := q
theorem i_ge (q : Q (.bl (decide (n ≤ m))) μ) : dGe (.int m) (.int n) μ Q := q
theorem s_add {u v : Str} (h : u.length + v.length ≤ sizeLine) (q : Q (.str (u ++ v)) μ) : dAdd (.str u) (.str v) μ Q := ⟨h, q⟩
theorem s_mul {u : Str} (h : (0 ≤ n ∧ n ≤ 1000000 ∧ u.length * n.toNat ≤ sizeLine)) (q : Q (.str (repS u n.toNat)) μ) : dMul (.str u) (.int n) μ Q := ⟨h, q⟩
theorem l_add (h : xs.length + ys.length ≤ sizeLine) (q : Q (.lst (xs ++ ys)) μ) : dAdd (.lst xs) (.lst ys) μ Q := by
  unfold dAdd; exact ⟨h, q⟩
theorem l_mul (h : (-(2 ^ 63) ≤ n ∧ n < 2 ^ 63 ∧ xs.length * n.toNat ≤ sizeLine)) (q : Q (.lst (List.replicate n.toNat xs).flatten) μ) : dMul (.lst xs) (.int n) μ Q := by
  unfold dMul; exact ⟨h, q⟩
theorem l_len (q : Q (.int xs.length) μ) : drLen [.lst xs] μ Q := q
theorem l_lenT (q : Q (.int xs.length) μ) : drLen [.tup xs] μ Q := q
theorem l_lenO (q : Q (.int xs.length) μ) : drLen [.rol xs] μ Q := q
theorem l_lenS {u : Str} (h : u.length ≤ sizeLine) (q : Q (.int u.length) μ) : drLen [.str u] μ Q := ⟨h, q⟩
theorem ix_str {u : Str} {k : Int} {c : Nat} (h : u.length ≤ sizeLine) (e : atI u.cps.toList k = some c) (q : Q (.str ⟨#[c]⟩) μ) : dIx (.str u) (.int k) μ Q := by
  unfold dIx; simp only [e]; exact ⟨h, q⟩
theorem sl_L {l u : Option Int} (q : Q (.lst (cutL xs l u)) μ) : drSl (.lst xs) l u μ Q := q
theorem sl_T {l u : Option Int} (q : Q (.tup (cutL xs l u)) μ) : drSl (.tup xs) l u μ Q := q
theorem cutL_from {α : Type} (xs : List α) (k : Nat) : cutL xs (some k) none = xs.drop k := by
  unfold cutL
  rw [HT.sIx_nat, HT.sIx_none]
  by_cases h : k ≤ xs.length
  · rw [Nat.min_eq_left h, List.take_of_length_le (by simp)]
  · rw [Nat.min_eq_right (by omega), List.drop_of_length_le (Nat.le_refl _), List.drop_of_length_le (by omega)]; simp
theorem cutL_to {α : Type} (xs : List α) (k : Nat) : cutL xs none (some k) = xs.take k := by
  unfold cutL
  rw [HT.sIx_nat, HT.sIx_none]
  simp
theorem valD_mapk {α : Type} {ks : List Str} {g : Str → α} {k : Str} : valD (ks.map fun k => ((Sum.inr k : Key), g k)) (.inr k) = if k ∈ ks then some (g k) else none := by
  induction ks with
  | nil => simp [valD_nil]
  | cons x r ih =>
    rw [List.map_cons, valD_cons, ih]
    by_cases h : x = k
    · subst h; simp
    · have : ¬ ((Sum.inr x : Key) = Sum.inr k) := fun z => h (by cases z; rfl)
      rw [if_neg this]
      by_cases h2 : k ∈ r
      · rw [if_pos h2, if_pos (List.mem_cons_of_mem _ h2)]
      · rw [if_neg h2, if_neg (by simp [Ne.symm h, h2])]
theorem putD_mapk {α : Type} {ks : List Str} {g : Str → α} {x : Str} {v : α} (h : x ∉ ks) : putD (ks.map fun k => ((Sum.inr k : Key), g k)) (.inr x) v = (ks.map fun k => ((Sum.inr k : Key), g k)) ++ [(.inr x, v)] := by
  unfold putD
  rw [if_neg]
  intro z
  rw [List.any_map] at z
  obtain ⟨k, hk, e⟩ := List.any_eq_true.mp z
  simp at e
  exact h (e ▸ hk)
theorem enums_at {k : Nat} {d : SD} (h : (enums xs)[k]? = some d) : ∃ y, xs[k]? = some y ∧ d = .tup [.int k, y] := by
  unfold enums at h
  rw [List.getElem?_mapIdx] at h
  cases e : xs[k]? with
  | none => rw [e] at h; cases h
  | some y => rw [e] at h; cases h; exact ⟨y, rfl, rfl⟩
end
end MA
namespace LK
open PySem PySem.Spec PyProof.Rows L2 DS MA
def sts (ks : List Str) : List SD := ks.map SD.str
def sp_keys_of : DSp := fun ds μ Q _ => ∃ t, ds = [enc t] ∧ TOk t ∧ ∀ μ', Le μ μ' → Q (.tup (sts (pre t))) μ'
theorem len_keys_of : ∀ ds μ Q E, sp_keys_of ds μ Q E → ds.length = 1 := by rintro ds μ Q E ⟨t, rfl, _⟩; rfl
def t_keys_of : DTS := (dSeq (dPar 1 2 (dCons (dLstM dNil) (dCons (dLstM (dCons (dVar 0) dNil)) dNil)))
    (dSeq (dWhile (dTest (dOp (dEq true) (dVar 2) (dLst dNil))) (dSeq (dAsg (dLM0 dmPop (dVar 2)) (hTup 2 (hCons (hName 3) (hCons (hName 4) hNil))))
    (dSeq (dDrop (dLM dmAppend (dVar 1) (dCons (dVar 3) dNil)))
    (dDrop (dLM dmExtend (dVar 2) (dCons (dRev (dVar 4)) dNil))))))
    (dRet (dCB drTuple (dCons (dVar 1) dNil)))))
theorem read_keys_of : ∀ ds μ Q E, sp_keys_of ds μ Q E → t_keys_of { nx := fun _ μ' => Q .non μ', rt := Q } (begin_ ["tree", "found", "waiting", "key", "children"] ds) μ := by
  rintro ds μ Q E ⟨t, rfl, ok, q⟩
  refine ⟨by decide, fun p hp => ⟨(by show 1 ≤ sizeLine; decide), fun w hw => ?_⟩⟩
  have hpw : p ≠ w := fun e => by subst e; rw [up_same] at hw; cases hw
  rw [up_ne (Ne.symm hpw)] at hw
  refine ⟨fun m ρ μ' => ∃ ts done a b, ρ = [some (enc t), some (.ref p), some (.ref w), a, b] ∧ Le μ μ' ∧ μ' p = some (.lst (sts done)) ∧ μ' w = some (.lst (encL ts)) ∧ m = (preL ts).length ∧ done ++ preL ts.reverse = pre t ∧ (∀ t ∈ ts, dep t ≤ 30), ?_, ?_⟩
  · refine ⟨_, [t], [], none, none, rfl, ((Le.refl μ).up hp).up hw, by rw [up_ne hpw, up_same]; rfl, by rw [up_same]; simp [encL], rfl, by simp [preL], by simpa using ok.dep⟩
  · rintro m ρ μ1 ⟨ts, done, a, b, rfl, le, hp1, hw1, rfl, e, hd⟩
    obtain ⟨gp, g⟩ := encL_good ts (fun k hk => ok.keys k (by rw [← e]; exact List.mem_append_right _ (by rw [preL_mem] at hk ⊢; simpa using hk)))
    have hd' := depL_le hd
    refine r_var rfl ?_
    refine ⟨Nat.zero_le _, ?_⟩
    refine eq_nilR hw1 g (by omega) ?_
    rcases List.eq_nil_or_concat ts with rfl | ⟨ts', t', rfl⟩
    · refine ifF rfl ?_
      refine dr_tupleR hp1 ?_
      have : done = pre t := by simpa [preL] using e
      subst this
      exact q μ1 le
    · obtain ⟨k, cs⟩ := t'
      rw [List.concat_eq_append] at *
      rw [encL_append] at hw1
      refine ifT (by simp [encL_append, encL]) ⟨_, fun _ _ h => h, ?_⟩
      dsimp only
      refine r_var rfl ⟨isSome_ref hw1, ?_⟩
      refine dm_pop hw1 ?_
      refine ⟨rfl, rfl, ?_⟩
      dsimp only
      have e1 : done ++ (k :: (preL cs ++ preL ts'.reverse)) = pre t := by simpa [preL, preL_append, pre] using e
      have hl : done.length + (preL cs).length + 1 ≤ 1000 := by
        have := congrArg List.length e1; have := ok.len; simp at *; omega
      have hl2 : ts'.length + cs.length ≤ 1000 := by
        have h1 := congrArg List.length e1; have := ok.len; have := len_le_preL cs; have := len_le_preL ts'
        have := preL_reverse_len ts'; simp at h1; omega
      refine r_var rfl ⟨isSome_ref (by rw [up_ne hpw]; exact hp1), ?_⟩
      refine r_var rfl ?_
      refine dm_append (by rw [up_ne hpw]; exact hp1) (lt_line (m := 1000) (by simp [sts]; omega) (by omega)) ?_
      dsimp only
      refine r_var rfl ⟨isSome_ref (by rw [up_ne (Ne.symm hpw), up_same]), ?_⟩
      refine r_var rfl ?_
      refine rev_T ?_
      refine dm_extendT (by rw [up_ne (Ne.symm hpw), up_same]) (le_line (m := 1000) (by simp [encL_length]; omega) (by omega)) ?_
      refine ⟨_, ?_, ts' ++ cs.reverse, done ++ [k], _, _, rfl, ?_, ?_, ?_, rfl, ?_, ?_⟩
      · have := preL_reverse_len cs
        simp [preL_append, preL, pre]; omega
      · exact ((le.up hw).up hp).up hw
      · rw [up_ne hpw, up_same]; simp [sts]
      · rw [up_same, encL_append, encL_reverse]
      · rw [← e1]; simp [preL_append]
      · intro t' h'
        rcases List.mem_append.mp h' with h' | h'
        · exact hd t' (List.mem_append_left _ h')
        · have h1 := hd _ (List.mem_append_right _ (List.mem_singleton.mpr rfl))
          have h2 := depL_mem (List.mem_reverse.mp h')
          rw [dep] at h1; omega
end LK
namespace LK
open PySem PySem.Spec PyProof.Rows L2 DS MA
/-- from k upwards -/
inductive Up (par : Str → Option Str) : Str → List Str → Prop where
  | root {k : Str} (h : par k = none) : Up par k [k]
  | step {k p : Str} {l : List Str} (h : par k = some p) (r : Up par p l) : Up par k (k :: l)
theorem Up.head {par : Str → Option Str} {k : Str} {l : List Str} (h : Up par k l) : ∃ r, l = k :: r := by cases h <;> exact ⟨_, rfl⟩
theorem Up.uniq {par : Str → Option Str} {k : Str} {l l' : List Str} (h : Up par k l) : Up par k l' → l = l' := by
  induction h generalizing l' with
  | root h => intro q; cases q with
    | root => rfl
    | step h2 _ => rw [h] at h2; cases h2
  | step h r ih => intro q; cases q with
    | root h2 => rw [h] at h2; cases h2
    | step h2 r2 => rw [h] at h2; cases h2; rw [ih r2]
/-- s is t, or inside it -/
inductive Sub : T → T → Prop where
  | refl (t : T) : Sub t t
  | kid {s c : T} {k : Str} {cs : List T} (h : c ∈ cs) (r : Sub s c) : Sub s (.node k cs)
theorem Sub.pre {s t : T} (h : Sub s t) : ∀ k ∈ pre s, k ∈ MA.pre t := by
  induction h with
  | refl => exact fun _ h => h
  | kid h r ih => intro k hk; rw [MA.pre]; exact List.mem_cons_of_mem _ (preL_sub h _ (ih k hk))
theorem Sub.len {s t : T} (h : Sub s t) : (MA.pre s).length ≤ (MA.pre t).length := by
  induction h with
  | refl => exact Nat.le_refl _
  | kid h r ih => rw [MA.pre, List.length_cons]; have := preL_len h; omega
theorem Sub.dep {s t : T} (h : Sub s t) : MA.dep s ≤ MA.dep t := by
  induction h with
  | refl => exact Nat.le_refl _
  | kid h r ih => rw [MA.dep]; have := depL_mem h; omega
theorem Sub.fits {f : Str → List Str} {s t : T} (h : Sub s t) : Fits f t → Fits f s := by
  induction h with
  | refl => exact fun h => h
  | kid h r ih => intro q; rw [Fits] at q; exact ih (FitsL_mem.mp q.2 _ h)
end LK
namespace LK
open PySem PySem.Spec PyProof.Rows L2 DS MA
theorem log2_lt {i : Int} {k : Nat} (hk : 0 < k) (h : i.natAbs < 2 ^ k) : i.natAbs.log2 < k := by
  by_cases e : i.natAbs = 0
  · rw [e]; simpa using hk
  · exact (Nat.log2_lt e).mpr h
theorem mul_ok {i j : Int} (hi : i.natAbs < 2 ^ 2000) (hj : j.natAbs < 2 ^ 2000) : IntMulOk i j := CMulW.ok (by
  have := log2_lt (by decide) hi; have := log2_lt (by decide) hj; unfold CMulW; omega)
theorem pow_ok {i : Int} {n : Nat} (hi : i.natAbs < 2 ^ 2000) (hn : n ≤ 60) : CPowW i n := by
  refine ⟨by omega, ?_⟩
  have h1 := log2_lt (by decide) hi
  have h2 : Builtin.Int.intBits i ≤ 2001 := by unfold Builtin.Int.intBits; split <;> omega
  have h3 : (Builtin.Int.intBits i : Int) * (n : Int) ≤ 2001 * 60 := by
    exact_mod_cast Nat.mul_le_mul h2 hn
  omega
theorem div_ok {i j : Int} (h0 : 0 < j) (h : j.natAbs < 2 ^ 2000) : CDivW i j := ⟨h0, by have := log2_lt (by decide) h; omega⟩
theorem abs_lt {i : Int} {a b : Nat} (h0 : 0 ≤ i) (h : i < (2 : Int) ^ a) (hab : a ≤ b) : i.natAbs < 2 ^ b := by
  have h1 : i.natAbs < 2 ^ a := by
    have : ((i.natAbs : Nat) : Int) = i := Int.natAbs_of_nonneg h0
    have h2 : ((2 ^ a : Nat) : Int) = (2 : Int) ^ a := by norm_cast
    omega
  exact Nat.lt_of_lt_of_le h1 (Nat.pow_le_pow_right (by decide) hab)
/-- the hand: a great number, a number to mix, the turn -/
structure HandAt (μ : Mu) (h : Addr) (T : Nat) : Prop where
  ex : ∃ g m t : Int, μ h = some (.lst [.int g, .int m, .int t]) ∧ 0 ≤ g ∧ 0 ≤ m ∧ m < 2305843009213693921 ∧ 0 ≤ t ∧ t ≤ T
theorem HandAt.mono {μ : Mu} {h : Addr} {T T' : Nat} (H : HandAt μ h T) (l : T ≤ T') : HandAt μ h T' := by
  obtain ⟨g, m, t, e, a, b, c, d, f⟩ := H.ex
  exact ⟨g, m, t, e, a, b, c, d, by omega⟩
theorem HandAt.le {μ μ' : Mu} {h : Addr} {T : Nat} (H : HandAt μ h T) (l : Le μ μ') : HandAt μ' h T := by
  obtain ⟨g, m, t, e, r⟩ := H.ex
  exact ⟨g, m, t, l _ _ e, r⟩
theorem HandAt.ne {μ : Mu} {h p : Addr} {T : Nat} (H : HandAt μ h T) (hp : μ p = none) : h ≠ p := by
  obtain ⟨g, m, t, e, r⟩ := H.ex
  intro z; subst z; rw [hp] at e; cases e
theorem HandAt.up {μ : Mu} {h p : Addr} {T : Nat} {m : MO} (H : HandAt μ h T) (hp : h ≠ p) : HandAt (up μ p m) h T := by
  obtain ⟨g, m, t, e, r⟩ := H.ex
  exact ⟨g, m, t, by rw [up_ne hp]; exact e, r⟩
theorem HandAt.rm {μ : Mu} {h p : Addr} {T : Nat} (H : HandAt μ h T) (hp : h ≠ p) : HandAt (rm μ p) h T := by
  obtain ⟨g, m, t, e, r⟩ := H.ex
  exact ⟨g, m, t, by rw [rm_ne hp]; exact e, r⟩
def sp__law_take : DSp := fun ds μ Q _ => ∃ h many T, ds = [.ref h, .int many] ∧ 0 < many ∧ many ≤ 10000000000000000000000000000000000000000 ∧ T ≤ 1000000000 ∧ HandAt μ h T ∧ ∀ (d : Int) μ', 0 ≤ d → d < many → HandAt μ' h (T + 1) → LeX h μ μ' → Q (.int d) μ'
theorem len__law_take : ∀ ds μ Q E, sp__law_take ds μ Q E → ds.length = 2 := by rintro ds μ Q E ⟨h, many, T, rfl, _⟩; rfl
def t__law_take : DTS := (dSeq (dIfS (dTest (dOp dGt (dOp dIx (dVar 0) (dC (.int 0))) (dC (.int 0)))) (dSeq (dSet (dOp dMod (dOp dIx (dVar 0) (dC (.int 0))) (dVar 1)) 5)
    (dSeq (dAsg (dOp dDiv (dOp dIx (dVar 0) (dC (.int 0))) (dVar 1)) (hSub (dVar 0) (dC (.int 0)) dsetL))
    (dRet (dVar 5)))) dNext)
    (dSeq (dSet (dOp dAdd (dOp dIx (dVar 0) (dC (.int 2))) (dC (.int 1))) 2)
    (dSeq (dAsg (dVar 2) (hSub (dVar 0) (dC (.int 2)) dsetL))
    (dSeq (dSet (dOp dIx (dLst (dCons (dC (.int 2147483647)) (dCons (dC (.int 2147483629)) (dCons (dC (.int 2147483587)) (dCons (dC (.int 2147483579)) (dCons (dC (.int 2147483563)) (dCons (dC (.int 2147483549)) dNil))))))) (dOp dMod (dVar 2) (dC (.int 6)))) 3)
    (dSeq (dSet (dOp dMod (dOp dPow (dOp dAdd (dOp dAdd (dOp dIx (dVar 0) (dC (.int 1))) (dOp dMul (dOp dMul (dC (.int 65537)) (dVar 2)) (dVar 2))) (dOp dMul (dC (.int 31)) (dVar 2))) (dC (.int 3))) (dVar 3)) 4)
    (dRet (dOp dMod (dOp dDiv (dOp dMod (dOp dMul (dVar 4) (dOp dAdd (dOp dMod (dVar 4) (dC (.int 10007))) (dOp dMul (dC (.int 13)) (dVar 2)))) (dC (.int 2305843009213693907))) (dC (.int 97))) (dVar 1))))))))
theorem setL_ok {μ : Mu} {a : Addr} {xs : List SD} {k : Int} {j : Nat} {v : SD} {R : Mu → Prop} (m : μ a = some (.lst xs)) (h : ixN xs.length k = some j) (q : R (up μ a (.lst (xs.set j v)))) : dsetL (.ref a) (.int k) v μ R := by
  unfold dsetL
  have e : mlst μ (.ref a) = some (a, xs) := by simp [mlst, m]
  simp only [e, h]; exact q
theorem read__law_take : ∀ ds μ Q E, sp__law_take ds μ Q E → t__law_take { nx := fun _ μ' => Q .non μ', rt := Q } (begin_ ["_law_hand_here", "_law_many", "_law_turn", "_law_prime", "_law_mixed", "_law_digit"] ds) μ := by
  rintro ds μ Q E ⟨h, many, T, rfl, hm0, hm1, hT, H, q⟩
  unfold t__law_take
  obtain ⟨g, m, t, e, g0, m0, m1, t0, t1⟩ := H.ex
  refine r_var rfl ?_
  refine ix_ref (d := .int g) e rfl ?_
  by_cases hg : 0 < g
  · refine ifT (decide_eq_true hg) ?_
    refine r_var rfl ?_
    refine ix_ref (d := .int g) e rfl ?_
    refine r_var rfl ?_
    refine ⟨hm0, ?_⟩
    dsimp only
    refine r_var rfl ?_
    refine ix_ref (d := .int g) e rfl ?_
    refine r_var rfl ?_
    refine ⟨div_ok hm0 (abs_lt (a := 140) (by omega) (by omega) (by decide)), ?_⟩
    refine r_var rfl ?_
    refine setL_ok (j := 0) e rfl ?_
    dsimp only
    refine r_var rfl ?_
    refine q _ _ (Int.emod_nonneg _ (by omega)) (Int.emod_lt_of_pos _ hm0) ⟨g / many, m, t, by rw [up_same]; rfl, Int.ediv_nonneg g0 (by omega), m0, m1, t0, by omega⟩ ((LeX.refl h μ).put)
  · refine ifF (decide_eq_false hg) ?_
    simp only [dNext]
    refine r_var rfl ?_
    refine ix_ref (d := .int t) e rfl ?_
    refine i_add ?_
    dsimp only
    refine r_var rfl ?_
    refine r_var rfl ?_
    refine setL_ok (j := 2) e rfl ?_
    dsimp only
    refine ⟨(by show 6 ≤ sizeLine; decide), ?_⟩
    refine r_var rfl ?_
    refine i_mod (by decide) ?_
    have hp : ∃ p : Int, atI [SD.int 2147483647, .int 2147483629, .int 2147483587, .int 2147483579, .int 2147483563, .int 2147483549] ((t + 1) % 6) = some (.int p) ∧ 0 < p ∧ p ≤ 2147483647 := by
      have h0 := Int.emod_nonneg (t + 1) (show (6 : Int) ≠ 0 by decide)
      have h1 := Int.emod_lt_of_pos (t + 1) (show (0 : Int) < 6 by decide)
      generalize (t + 1) % 6 = r at h0 h1
      have : r = 0 ∨ r = 1 ∨ r = 2 ∨ r = 3 ∨ r = 4 ∨ r = 5 := by omega
      rcases this with rfl | rfl | rfl | rfl | rfl | rfl <;> exact ⟨_, rfl, by decide, by decide⟩
    obtain ⟨p, hat, p0, p1⟩ := hp
    refine ix_lst hat ?_
    dsimp only
    have e2 : up μ h (.lst (([SD.int g, .int m, .int t] : List SD).set 2 (.int (t + 1)))) h = some (.lst [.int g, .int m, .int (t + 1)]) := by rw [up_same]; rfl
    refine r_var rfl ?_
    refine ix_ref (d := .int m) e2 rfl ?_
    have T1 : (t + 1).natAbs < 2 ^ 2000 := abs_lt (a := 40) (by omega) (by omega) (by decide)
    refine r_var rfl ?_
    refine i_mul (mul_ok (by decide) T1) ?_
    refine r_var rfl ?_
    have T2 : (65537 * (t + 1)).natAbs < 2 ^ 2000 := abs_lt (a := 60) (by omega) (by omega) (by decide)
    refine i_mul (mul_ok T2 T1) ?_
    refine i_add ?_
    refine r_var rfl ?_
    refine i_mul (mul_ok (by decide) T1) ?_
    refine i_add ?_
    have sq : 0 ≤ 65537 * (t + 1) * (t + 1) ∧ 65537 * (t + 1) * (t + 1) ≤ 65537 * 1000000001 * 1000000001 := by
      have a1 : 0 ≤ 65537 * (t + 1) := by omega
      have a2 : 65537 * (t + 1) ≤ 65537 * 1000000001 := by omega
      exact ⟨Int.mul_nonneg a1 (by omega), Int.mul_le_mul a2 (by omega) (by omega) (by decide)⟩
    refine i_pow (n := 3) (pow_ok (n := 3) (abs_lt (a := 100) (by omega) (by omega) (by decide)) (by decide)) ?_
    refine r_var rfl ?_
    refine i_mod p0 ?_
    dsimp only
    refine r_var rfl ?_
    refine r_var rfl ?_
    refine i_mod (by decide) ?_
    refine r_var rfl ?_
    refine i_mul (mul_ok (by decide) T1) ?_
    refine i_add ?_
    generalize hx : (m + 65537 * (t + 1) * (t + 1) + 31 * (t + 1)) ^ (Int.toNat 3) % p = x
    have x0 : 0 ≤ x := by rw [← hx]; exact Int.emod_nonneg _ (by omega)
    have x1 : x < p := by rw [← hx]; exact Int.emod_lt_of_pos _ p0
    have y0 := Int.emod_nonneg x (show (10007 : Int) ≠ 0 by decide)
    have y1 := Int.emod_lt_of_pos x (show (0 : Int) < 10007 by decide)
    refine i_mul (mul_ok (abs_lt (a := 40) x0 (by omega) (by decide)) (abs_lt (a := 60) (by omega) (by omega) (by decide))) ?_
    refine i_mod (by decide) ?_
    refine i_div (div_ok (by decide) (abs_lt (a := 40) (by omega) (by omega) (by decide))) ?_
    refine r_var rfl ?_
    refine i_mod hm0 ?_
    exact q _ _ (Int.emod_nonneg _ (by omega)) (Int.emod_lt_of_pos _ hm0) ⟨g, m, t + 1, e2, g0, m0, m1, by omega, by omega⟩ ((LeX.refl h μ).put)
end LK
namespace LK
open PySem PySem.Spec PyProof.Rows L2 DS MA
def sp__law_hand : DSp := fun ds μ Q _ => ∃ (ns : List Int) (k : Nat), ds = [.rol (ns.map SD.int), .int k] ∧ k ≤ 1000000 ∧ ∀ p μ', μ p = none → Le μ μ' → HandAt μ' p 0 → Q (.ref p) μ'
theorem len__law_hand : ∀ ds μ Q E, sp__law_hand ds μ Q E → ds.length = 2 := by rintro ds μ Q E ⟨ns, k, rfl, _⟩; rfl
def t__law_hand : DTS := (dSeq (dSet (dIf (dTest (dOp dLt (dVar 1) (dCB drLen (dCons (dVar 0) dNil)))) (dOp dIx (dVar 0) (dVar 1)) (dOp dAdd (dOp dMul (dC (.int 9)) (dVar 1)) (dC (.int 4)))) 2)
    (dSeq (dSet (dOp dMul (dOp dMod (dCB (drI1 fun i => if i < 0 then -i else i) (dCons (dVar 2) dNil)) (dOp dPow (dOp dPow (dC (.int 10)) (dC (.int 60))) (dC (.int 5)))) (dCB drInt (dCons (dOp dGe (dCB (drI1 fun i => if i < 0 then -i else i) (dCons (dVar 2) dNil)) (dOp dPow (dC (.int 10)) (dC (.int 18)))) dNil))) 3)
    (dRet (dLstM (dCons (dVar 3) (dCons (dOp dMod (dOp dMul (dOp dAdd (dOp dAdd (dOp dMod (dVar 2) (dC (.int 2305843009213693951))) (dOp dMul (dOp dMul (dC (.int 104729)) (dVar 1)) (dVar 1))) (dC (.int 37))) (dC (.int 48271))) (dC (.int 2305843009213693921))) (dCons (dC (.int 0)) dNil)))))))
theorem i_abs {μ : Mu} {Q : SD → Mu → Prop} {i : Int} (q : ∀ j : Int, 0 ≤ j → Q (.int j) μ) : drI1 (fun i => if i < 0 then -i else i) [.int i] μ Q := by
  refine q _ ?_
  dsimp only
  split <;> omega
theorem i_bool {μ : Mu} {Q : SD → Mu → Prop} {b : Bool} (q : Q (.int (if b then 1 else 0)) μ) : drInt [.bl b] μ Q := q
theorem ten_pow : (0 : Int) < (10 ^ Int.toNat 60) ^ Int.toNat 5 ∧ ((10 : Int) ^ Int.toNat 60) ^ Int.toNat 5 < 2 ^ 1000 := by decide +kernel
theorem ten60 : ((10 : Int) ^ Int.toNat 60).natAbs < 2 ^ 2000 := by decide +kernel
theorem read__law_hand : ∀ ds μ Q E, sp__law_hand ds μ Q E → t__law_hand { nx := fun _ μ' => Q .non μ', rt := Q } (begin_ ["_law_script", "_law_k", "_law_cell", "_law_great"] ds) μ := by
  rintro ds μ Q E ⟨ns, k, rfl, hk, q⟩
  unfold t__law_hand
  have cell : ∀ (D : DEnds), (∀ c : Int, D.nx ((begin_ ["_law_script", "_law_k", "_law_cell", "_law_great"] [.rol (ns.map SD.int), .int k]).set 2 (some (.int c))) μ) → dSet (dIf (dTest (dOp dLt (dVar 1) (dCB drLen (dCons (dVar 0) dNil)))) (dOp dIx (dVar 0) (dVar 1)) (dOp dAdd (dOp dMul (dC (.int 9)) (dVar 1)) (dC (.int 4)))) 2 D (begin_ ["_law_script", "_law_k", "_law_cell", "_law_great"] [.rol (ns.map SD.int), .int k]) μ := fun D h => by
    refine r_var rfl ?_
    refine r_var rfl ?_
    refine l_lenO ?_
    refine i_lt ?_
    by_cases hc : k < ns.length
    · refine ifT (by simpa using hc) ?_
      refine r_var rfl ?_
      refine r_var rfl ?_
      refine ix_rol (d := .int ns[k]) (atI_nat (by simp [hc])) (h _)
    · refine ifF (by simpa using hc) ?_
      refine r_var rfl ?_
      refine i_mul (mul_ok (by decide) (abs_lt (a := 40) (by omega) (by omega) (by decide))) ?_
      exact i_add (h _)
  refine cell _ fun c => ?_
  dsimp only
  refine r_var rfl ?_
  refine i_abs fun A hA => ?_
  refine i_pow (n := 60) (pow_ok (n := 60) (by decide) (by decide)) ?_
  refine i_pow (n := 5) (pow_ok (n := 5) ten60 (by decide)) ?_
  refine i_mod ten_pow.1 ?_
  refine r_var rfl ?_
  refine i_abs fun B hB => ?_
  refine i_pow (n := 18) (pow_ok (n := 18) (by decide) (by decide)) ?_
  refine i_ge ?_
  refine i_bool ?_
  have g0 := Int.emod_nonneg A (show ((10 : Int) ^ Int.toNat 60) ^ Int.toNat 5 ≠ 0 from Int.ne_of_gt ten_pow.1)
  have g1 := Int.lt_trans (Int.emod_lt_of_pos A ten_pow.1) ten_pow.2
  have b0 : ∀ b : Bool, (if b = true then (1 : Int) else 0).natAbs < 2 ^ 2000 ∧ 0 ≤ (if b = true then (1 : Int) else 0) := by decide
  refine i_mul (mul_ok (abs_lt (a := 1000) g0 g1 (by decide)) (b0 _).1) ?_
  dsimp only
  refine r_var rfl ?_
  refine r_var rfl ?_
  refine i_mod (by decide) ?_
  refine r_var rfl ?_
  refine i_mul (mul_ok (by decide) (abs_lt (a := 40) (by omega) (by omega) (by decide))) ?_
  refine r_var rfl ?_
  have k1 : 0 ≤ 104729 * (k : Int) * (k : Int) ∧ 104729 * (k : Int) * (k : Int) ≤ 104729 * 1000000 * 1000000 := ⟨Int.mul_nonneg (by omega) (by omega), Int.mul_le_mul (by omega) (by omega) (by omega) (by decide)⟩
  refine i_mul (mul_ok (abs_lt (a := 60) (by omega) (by omega) (by decide)) (abs_lt (a := 40) (by omega) (by omega) (by decide))) ?_
  refine i_add ?_
  refine i_add ?_
  have c0 := Int.emod_nonneg c (show (2305843009213693951 : Int) ≠ 0 by decide)
  have c1 := Int.emod_lt_of_pos c (show (0 : Int) < 2305843009213693951 by decide)
  refine i_mul (mul_ok (abs_lt (a := 100) (by omega) (by omega) (by decide)) (by decide)) ?_
  refine i_mod (by decide) ?_
  refine ⟨(by show 3 ≤ sizeLine; decide), fun p hp => ?_⟩
  exact q p _ hp ((Le.refl μ).up hp) ⟨_, _, _, up_same, Int.mul_nonneg g0 (b0 _).2, Int.emod_nonneg _ (by decide), Int.emod_lt_of_pos _ (by decide), Int.le_refl 0, Int.le_refl 0⟩
def sp__law_of : DSp := fun ds μ Q _ => ∃ h x xs T, ds = [.ref h, x] ∧ (x = .lst xs ∨ ∃ u : Str, x = .str u ∧ xs = u.cps.toList.map fun c => .str ⟨#[c]⟩) ∧ xs ≠ [] ∧ xs.length ≤ 1000000 ∧ T ≤ 1000000000 ∧ HandAt μ h T ∧ ∀ (i : Nat) d μ', xs[i]? = some d → HandAt μ' h (T + 1) → LeX h μ μ' → Q d μ'
theorem len__law_of : ∀ ds μ Q E, sp__law_of ds μ Q E → ds.length = 2 := by rintro ds μ Q E ⟨h, x, xs, T, rfl, _⟩; rfl
def t__law_of : DTS := (dRet (dOp dIx (dVar 1) (dCall sp__law_take [] (dCons (dVar 0) (dCons (dCB drLen (dCons (dVar 1) dNil)) dNil)))))
theorem read__law_of : ∀ ds μ Q E, sp__law_of ds μ Q E → t__law_of { nx := fun _ μ' => Q .non μ', rt := Q } (begin_ ["_law_hand_here", "_law_some"] ds) μ := by
  rintro ds μ Q E ⟨h, x, xs, T, rfl, hx, hne, hl, hT, H, q⟩
  unfold t__law_of
  refine r_var rfl ?_
  refine r_var rfl ?_
  refine r_var rfl ?_
  have hpos : 0 < xs.length := List.length_pos_iff.mpr hne
  rcases hx with rfl | ⟨u, rfl, rfl⟩
  · refine l_len ?_
    refine ⟨h, xs.length, T, rfl, by omega, by omega, hT, H, fun d μ' d0 d1 H' l => ?_⟩
    obtain ⟨i, rfl⟩ := Int.eq_ofNat_of_zero_le d0
    have hi : i < xs.length := by omega
    have e : xs[i]? = some xs[i] := List.getElem?_eq_getElem hi
    exact ix_lst (atI_nat e) (q i _ μ' e H' l)
  · rw [List.length_map] at hpos hl
    have hu : u.length = u.cps.toList.length := rfl
    refine l_lenS (le_line (by rw [hu]; exact hl) (by omega)) ?_
    refine ⟨h, u.length, T, rfl, by omega, by omega, hT, H, fun d μ' d0 d1 H' l => ?_⟩
    obtain ⟨i, rfl⟩ := Int.eq_ofNat_of_zero_le d0
    have hi : i < u.cps.toList.length := by omega
    have e : u.cps.toList[i]? = some u.cps.toList[i] := List.getElem?_eq_getElem hi
    refine ix_str (le_line (by rw [hu]; exact hl) (by omega)) (atI_nat e) (q i _ μ' ?_ H' l)
    rw [List.getElem?_map, e]; rfl
end LK
namespace LK
open PySem PySem.Spec PyProof.Rows L2 DS MA
theorem abc : ("abcdefghijklmnopqrstuvwxyz" : Str).cps.toList = (List.range 26).map (97 + ·) := by decide +kernel
end LK
namespace LK
open PySem PySem.Spec PyProof.Rows L2 DS MA
/-- 1 to 8 small letters -/
def LowK (k : Str) : Prop := 1 ≤ k.cps.size ∧ k.cps.size ≤ 8 ∧ ∀ c ∈ k.cps.toList, 97 ≤ c ∧ c < 123
end LK
namespace LK
end LK
namespace LK
open PySem PySem.Spec PyProof.Rows L2 DS MA
structure Grow (names : List Str) (deep n : Nat) (f : Str → List Str) (lev : Str → Nat) : Prop where
  l0 : ∀ k, names[0]? = some k → lev k = 1
  lv : ∀ k ∈ names.take n, 1 ≤ lev k ∧ lev k ≤ deep
  kid : ∀ k ∈ names.take n, ∀ c ∈ f k, c ∈ names.take n ∧ lev c = lev k + 1
  perm : ((names.take n).flatMap f).Perm (names.take n).tail
def putIn (f : Str → List Str) (home x : Str) (j : Nat) : Str → List Str := fun k => if k = x then [] else if k = home then (f home).take j ++ [x] ++ (f home).drop j else f k
def levIn (lev : Str → Nat) (home x : Str) : Str → Nat := fun k => if k = x then lev home + 1 else lev k
theorem flatMap_same {f g : Str → List Str} : ∀ {ks : List Str}, (∀ k ∈ ks, f k = g k) → ks.flatMap f = ks.flatMap g
  | [], _ => rfl
  | k :: r, h => by rw [List.flatMap_cons, List.flatMap_cons, h k (List.mem_cons_self ..), flatMap_same fun x hx => h x (List.mem_cons_of_mem _ hx)]
theorem perm_putIn {f : Str → List Str} {home x : Str} {j : Nat} : ∀ {ks : List Str}, ks.Nodup → home ∈ ks → x ∉ ks → (ks.flatMap (putIn f home x j)).Perm (x :: ks.flatMap f)
  | [], _, h, _ => by cases h
  | k :: r, nd, h, hx => by
    rw [List.flatMap_cons, List.flatMap_cons]
    have nd2 := List.nodup_cons.mp nd
    have hxk : k ≠ x := fun e => hx (by rw [e]; exact List.mem_cons_self ..)
    by_cases e : k = home
    · subst e
      have : r.flatMap (putIn f k x j) = r.flatMap f := flatMap_same fun y hy => by
        have h1 : y ≠ k := fun e => nd2.1 (e ▸ hy)
        have h2 : y ≠ x := fun e => hx (by rw [← e]; exact List.mem_cons_of_mem _ hy)
        unfold putIn; rw [if_neg h2, if_neg h1]
      rw [this]
      have e2 : putIn f k x j k = (f k).take j ++ [x] ++ (f k).drop j := by unfold putIn; rw [if_neg hxk, if_pos rfl]
      rw [e2]
      have : ((f k).take j ++ [x] ++ (f k).drop j).Perm (x :: f k) := by
        conv => rhs; rw [← List.take_append_drop j (f k)]
        rw [List.append_assoc]
        exact List.perm_middle
      exact this.append_right _
    · have h2 : home ∈ r := by
        rcases List.mem_cons.mp h with h | h
        · exact (e h.symm).elim
        · exact h
      have e2 : putIn f home x j k = f k := by unfold putIn; rw [if_neg hxk, if_neg e]
      rw [e2]
      have ih := perm_putIn (f := f) (j := j) nd2.2 h2 (fun z => hx (List.mem_cons_of_mem _ z))
      exact (ih.append_left (f k)).trans List.perm_middle
theorem take_snoc {names : List Str} {n : Nat} {x : Str} (h : names[n]? = some x) : names.take (n + 1) = names.take n ++ [x] := by
  rw [List.take_succ, h]; rfl
theorem not_in_take {names : List Str} {n : Nat} {x : Str} (nd : names.Nodup) (h : names[n]? = some x) : x ∉ names.take n := by
  have h1 : (names.take (n + 1)).Nodup := nd.sublist (List.take_sublist ..)
  rw [take_snoc h, List.nodup_append] at h1
  intro z; exact h1.2.2 x z x (List.mem_singleton.mpr rfl) rfl
theorem Grow.step {names : List Str} {deep n : Nat} {f : Str → List Str} {lev : Str → Nat} {home x : Str} {j : Nat} (G : Grow names deep n f lev) (nd : names.Nodup) (hn : 0 < n) (hx : names[n]? = some x) (hh : home ∈ names.take n) (hd : lev home < deep) :
    Grow names deep (n + 1) (putIn f home x j) (levIn lev home x) := by
  have xn := not_in_take nd hx
  have nx : ∀ k ∈ names.take n, k ≠ x := fun k hk e => xn (e ▸ hk)
  have mem : ∀ k ∈ names.take n, k ∈ names.take (n + 1) := fun k hk => by rw [take_snoc hx]; exact List.mem_append_left _ hk
  have split : ∀ k ∈ names.take (n + 1), k ∈ names.take n ∨ k = x := fun k hk => by rw [take_snoc hx] at hk; simpa using hk
  refine ⟨fun k hk => ?_, fun k hk => ?_, fun k hk c hc => ?_, ?_⟩
  · have hk2 : k ∈ names.take n := by
      have : (names.take n)[0]? = some k := by rw [List.getElem?_take]; simp [hn, hk]
      exact List.mem_of_getElem? this
    unfold levIn; rw [if_neg (nx k hk2)]; exact G.l0 k hk
  · unfold levIn
    rcases split k hk with hk | rfl
    · rw [if_neg (nx k hk)]; exact G.lv k hk
    · rw [if_pos rfl]; omega
  · rcases split k hk with hk | rfl
    · have hkx := nx k hk
      have key : ∀ c ∈ f k, c ∈ names.take (n + 1) ∧ levIn lev home x c = levIn lev home x k + 1 := fun c hc => by
        obtain ⟨a, b⟩ := G.kid k hk c hc
        refine ⟨mem c a, ?_⟩
        unfold levIn; rw [if_neg (nx c a), if_neg hkx]; exact b
      unfold putIn at hc
      rw [if_neg hkx] at hc
      by_cases e : k = home
      · subst e
        rw [if_pos rfl] at hc
        rcases List.mem_append.mp hc with hc | hc
        · rcases List.mem_append.mp hc with hc | hc
          · exact key c (List.mem_of_mem_take hc)
          · have : c = x := by simpa using hc
            subst this
            refine ⟨by rw [take_snoc hx]; simp, ?_⟩
            unfold levIn; rw [if_pos rfl, if_neg hkx]
        · exact key c (List.mem_of_mem_drop hc)
      · rw [if_neg e] at hc; exact key c hc
    · unfold putIn at hc; rw [if_pos rfl] at hc; cases hc
  · rw [take_snoc hx, List.flatMap_append]
    have e1 : [x].flatMap (putIn f home x j) = [] := by simp [putIn]
    rw [e1, List.append_nil]
    have h1 := perm_putIn (f := f) (j := j) (nd.sublist (List.take_sublist n names)) hh xn
    have e2 : (names.take n ++ [x]).tail = (names.take n).tail ++ [x] := by
      cases e : names.take n with
      | nil => rw [e] at hh; cases hh
      | cons a r => rfl
    rw [e2]
    exact (h1.trans (List.Perm.cons x G.perm)).trans (List.perm_append_singleton x _).symm
theorem Grow.init {names : List Str} {deep : Nat} {x : Str} (h0 : names[0]? = some x) (hd : 1 ≤ deep) : Grow names deep 1 (fun _ => []) (fun _ => 1) := by
  have e : names.take 1 = [x] := by rw [take_snoc h0]; rfl
  refine ⟨fun _ _ => rfl, fun _ _ => ⟨Nat.le_refl _, hd⟩, fun k _ c hc => (List.not_mem_nil hc).elim, ?_⟩
  rw [e]; simp
end LK
namespace LK
open PySem PySem.Spec PyProof.Rows L2 DS MA
theorem len_sub {α : Type} [DecidableEq α] : ∀ {a b : List α}, a.Nodup → (∀ x ∈ a, x ∈ b) → a.length ≤ b.length
  | [], _, _, _ => Nat.zero_le _
  | x :: r, b, nd, h => by
    have nd2 := List.nodup_cons.mp nd
    have hx := h x (List.mem_cons_self ..)
    have := len_sub (b := b.erase x) nd2.2 fun y hy => (List.mem_erase_of_ne (fun e => nd2.1 (by subst e; exact hy))).mpr (h y (List.mem_cons_of_mem _ hy))
    rw [List.length_erase_of_mem hx] at this
    have := List.length_pos_of_mem hx
    rw [List.length_cons]; omega
theorem uniq_block {f : Str → List Str} {c k k' : Str} : ∀ {ks : List Str}, (ks.flatMap f).Nodup → k ∈ ks → k' ∈ ks → c ∈ f k → c ∈ f k' → k = k'
  | [], _, h, _, _, _ => by cases h
  | a :: r, nd, h, h', hc, hc' => by
    rw [List.flatMap_cons, List.nodup_append] at nd
    have dis : ∀ y ∈ r, c ∈ f a → c ∈ f y → False := fun y hy h1 h2 => nd.2.2 c h1 c (List.mem_flatMap.mpr ⟨y, hy, h2⟩) rfl
    rcases List.mem_cons.mp h with e | h1 <;> rcases List.mem_cons.mp h' with e' | h2
    · rw [e, e']
    · rw [e] at hc; exact (dis k' h2 hc hc').elim
    · rw [e'] at hc'; exact (dis k h1 hc' hc).elim
    · exact uniq_block nd.2.1 h1 h2 hc hc'
def parOf (names : List Str) (f : Str → List Str) (c : Str) : Option Str := names.find? fun k => decide (c ∈ f k)
def build (f : Str → List Str) : Nat → Str → T
  | 0, k => .node k []
  | n + 1, k => .node k ((f k).map (build f n))
theorem build_key {f : Str → List Str} {n : Nat} {k : Str} : (build f n k).key = k := by cases n <;> rfl
theorem build_dep {f : Str → List Str} : ∀ {n : Nat} {k : Str}, dep (build f n k) ≤ n + 1
  | 0, k => by rw [build, dep, depL]; omega
  | n + 1, k => by
    rw [build, dep]
    have : depL ((f k).map (build f n)) ≤ n + 1 := depL_le fun t ht => by
      obtain ⟨c, _, rfl⟩ := List.mem_map.mp ht; exact build_dep
    omega
theorem Sub.trans {a b c : T} (h : Sub a b) (k : Sub b c) : Sub a c := by
  induction k with
  | refl => exact h
  | kid hc _ ih => exact .kid hc ih
theorem Up.next {par : Str → Option Str} {x y z : Str} {l : List Str} (h : Up par x l) : y ∈ l → par y = some z → z ∈ l := by
  induction h with
  | root h => intro hy e; have := List.mem_singleton.mp hy; subst this; rw [h] at e; cases e
  | step h r ih =>
    intro hy e
    rcases List.mem_cons.mp hy with rfl | hy
    · rw [h] at e; cases e
      obtain ⟨q, rfl⟩ := r.head; simp
    · exact List.mem_cons_of_mem _ (ih hy e)
/-- what is known of a grown tree -/
structure Plant (names : List Str) (n0 : Str) (f : Str → List Str) (par : Str → Option Str) (lev : Str → Nat) (t : T) : Prop where
  key : t.key = n0
  P : Par f par t
  kid : ∀ c p, par c = some p → p ∈ names ∧ c ∈ f p
  mem : ∀ k, k ∈ pre t ↔ k ∈ names
  nd : (pre t).Nodup
  dep : dep t ≤ 20
  sub : ∀ k ∈ names, ∃ s, Sub s t ∧ s.key = k
  upl : ∀ k l, k ∈ names → Up par k l → l.length = lev k
  up : ∀ k ∈ names, ∃ l, Up par k (k :: l) ∧ l.length ≤ 999 ∧ (∀ x ∈ l, x ∈ names) ∧ k ∉ l
theorem anc_eq {f : Str → List Str} {par : Str → Option Str} {lev : Str → Nat} {x : Str} : ∀ (n : Nat) (s : T), dep s ≤ n → Fits f s → (∀ k ∈ pre s, ∀ c ∈ f k, par c = some k ∧ lev c = lev k + 1) → x ∈ pre s → ∀ s', dep s' ≤ n → Fits f s' → (∀ k ∈ pre s', ∀ c ∈ f k, par c = some k ∧ lev c = lev k + 1) → x ∈ pre s' → lev s.key = lev s'.key → s.key = s'.key := by
  -- both lie on the way up from x
  have chain : ∀ (n : Nat) (s : T), dep s ≤ n → Fits f s → (∀ k ∈ pre s, ∀ c ∈ f k, par c = some k ∧ lev c = lev k + 1) → x ∈ pre s → ∃ d, lev x = lev s.key + d ∧ Nat.repeat (fun o : Option Str => o.bind par) d (some x) = some s.key := by
    intro n
    induction n with
    | zero => intro s h; cases s; rw [MA.dep] at h; omega
    | succ n ih =>
      intro s h fit hp hx
      obtain ⟨k, cs⟩ := s
      rw [Fits] at fit
      rw [MA.dep] at h
      rw [MA.pre] at hx hp
      rcases List.mem_cons.mp hx with rfl | hx
      · exact ⟨0, rfl, rfl⟩
      · obtain ⟨c, hc, hxc⟩ := preL_mem.mp hx
        have := depL_mem hc
        obtain ⟨d, h1, h2⟩ := ih c (by omega) (FitsL_mem.mp fit.2 c hc) (fun y hy => hp y (List.mem_cons_of_mem _ (preL_sub hc y hy))) hxc
        have h3 := hp k (List.mem_cons_self ..) c.key (by rw [fit.1]; exact List.mem_map.mpr ⟨c, hc, rfl⟩)
        refine ⟨d + 1, ?_, ?_⟩
        · show lev x = lev k + (d + 1); omega
        · show (Nat.repeat (fun o : Option Str => o.bind par) d (some x)).bind par = some k
          rw [h2]; exact h3.1
  intro n s h1 h2 h3 h4 s' g1 g2 g3 g4 e
  obtain ⟨d, a1, a2⟩ := chain n s h1 h2 h3 h4
  obtain ⟨d', b1, b2⟩ := chain n s' g1 g2 g3 g4
  have : d = d' := by omega
  subst this
  rw [a2] at b2; exact Option.some.inj b2
theorem preL_nodup : ∀ {cs : List T}, (∀ c ∈ cs, (pre c).Nodup) → cs.Pairwise (fun a b => ∀ x ∈ pre a, x ∉ pre b) → (preL cs).Nodup
  | [], _, _ => by rw [preL]; exact List.nodup_nil
  | c :: r, h, p => by
    have p2 := List.pairwise_cons.mp p
    rw [preL, List.nodup_append]
    refine ⟨h c (List.mem_cons_self ..), preL_nodup (fun d hd => h d (List.mem_cons_of_mem _ hd)) p2.2, fun x hx y hy e => ?_⟩
    subst e
    obtain ⟨d, hd, hxd⟩ := preL_mem.mp hy
    exact p2.1 d hd x hx hxd
end LK
namespace LK
open PySem PySem.Spec PyProof.Rows L2 DS MA
theorem plant_of {names : List Str} {n0 : Str} {deep : Nat} {f : Str → List Str} {lev : Str → Nat} (G : Grow names deep names.length f lev) (h0 : names[0]? = some n0) (nd : names.Nodup) (hl : names.length ≤ 600) (hd1 : 1 ≤ deep) (hd : deep ≤ 20) :
    Plant names n0 f (parOf names f) lev (build f (deep - 1) n0) := by
  obtain ⟨l0, lv, kid, perm⟩ := G
  rw [List.take_length] at lv kid perm
  have l0 := l0 n0 h0
  have n0in : n0 ∈ names := List.mem_of_getElem? h0
  have hcons : names = n0 :: names.tail := by
    cases names with
    | nil => cases n0in
    | cons a r => simp at h0; subst h0; rfl
  have ndt : names.tail.Nodup := by rw [hcons] at nd; exact (List.nodup_cons.mp nd).2
  have n0t : n0 ∉ names.tail := by rw [hcons] at nd; exact (List.nodup_cons.mp nd).1
  have fnd : (names.flatMap f).Nodup := perm.nodup_iff.mpr ndt
  have parS : ∀ c p, parOf names f c = some p → p ∈ names ∧ c ∈ f p := fun c p h => by
    refine ⟨List.mem_of_find?_eq_some h, ?_⟩
    have := List.find?_some h
    simpa using this
  have parK : ∀ k ∈ names, ∀ c ∈ f k, parOf names f c = some k := fun k hk c hc => by
    have : (parOf names f c).isSome = true := List.find?_isSome.mpr ⟨k, hk, by simpa using hc⟩
    obtain ⟨p, hp⟩ := Option.isSome_iff_exists.mp this
    obtain ⟨a, b⟩ := parS c p hp
    rw [hp, uniq_block fnd a hk b hc]
  have root : parOf names f n0 = none := by
    cases e : parOf names f n0 with
    | none => rfl
    | some p =>
      obtain ⟨a, b⟩ := parS _ _ e
      exact (n0t (perm.mem_iff.mp (List.mem_flatMap.mpr ⟨p, a, b⟩))).elim
  have fit : ∀ n k, k ∈ names → deep ≤ lev k + n → Fits f (build f n k) := by
    intro n
    induction n with
    | zero =>
      intro k hk h
      rw [build, Fits]
      refine ⟨List.eq_nil_iff_forall_not_mem.mpr fun c hc => ?_, trivial⟩
      obtain ⟨a, b⟩ := kid k hk c hc
      have := (lv c a).2; omega
    | succ n ih =>
      intro k hk h
      rw [build, Fits]
      refine ⟨?_, FitsL_mem.mpr fun t ht => ?_⟩
      · rw [List.map_map]
        exact ((List.map_congr_left fun c _ => build_key).trans (List.map_id _)).symm
      · obtain ⟨c, hc, rfl⟩ := List.mem_map.mp ht
        obtain ⟨a, b⟩ := kid k hk c hc
        exact ih c a (by omega)
  have inn : ∀ n k, k ∈ names → ∀ x ∈ pre (build f n k), x ∈ names ∧ lev k ≤ lev x := by
    intro n
    induction n with
    | zero => intro k hk x hx; rw [build, pre, preL] at hx; have := List.mem_singleton.mp hx; subst this; exact ⟨hk, Nat.le_refl _⟩
    | succ n ih =>
      intro k hk x hx
      rw [build, pre] at hx
      rcases List.mem_cons.mp hx with rfl | hx
      · exact ⟨hk, Nat.le_refl _⟩
      · obtain ⟨t, ht, hxt⟩ := preL_mem.mp hx
        obtain ⟨c, hc, rfl⟩ := List.mem_map.mp ht
        obtain ⟨a, b⟩ := kid k hk c hc
        obtain ⟨p, q⟩ := ih c a x hxt
        exact ⟨p, by omega⟩
  have fkn : ∀ k ∈ names, (f k).Nodup := fun k hk => by
    obtain ⟨s, t, e⟩ := List.append_of_mem hk
    rw [e, List.flatMap_append, List.flatMap_cons, List.nodup_append] at fnd
    exact (List.nodup_append.mp fnd.2.1).1
  have pn : ∀ n k, k ∈ names → deep ≤ lev k + n → (pre (build f n k)).Nodup := by
    intro n
    induction n with
    | zero => intro k hk h; rw [build, pre, preL]; simp
    | succ n ih =>
      intro k hk h
      rw [build, pre, List.nodup_cons]
      refine ⟨fun hx => ?_, preL_nodup (fun t ht => ?_) ?_⟩
      · obtain ⟨t, ht, hxt⟩ := preL_mem.mp hx
        obtain ⟨c, hc, rfl⟩ := List.mem_map.mp ht
        obtain ⟨a, b⟩ := kid k hk c hc
        obtain ⟨p, q⟩ := inn n c a k hxt
        omega
      · obtain ⟨c, hc, rfl⟩ := List.mem_map.mp ht
        obtain ⟨a, b⟩ := kid k hk c hc
        exact ih c a (by omega)
      · refine List.pairwise_map.mpr (List.Pairwise.imp_of_mem (R := fun a b => a ≠ b) ?_ (fkn k hk))
        intro a b ha hb hne x hxa hxb
        obtain ⟨a1, a2⟩ := kid k hk a ha
        obtain ⟨b1, b2⟩ := kid k hk b hb
        have := anc_eq (par := parOf names f) (lev := lev) (n + 1) _ (build_dep (f := f) (n := n) (k := a)) (fit n a a1 (by omega)) (fun y hy c hc => ⟨parK y (inn n a a1 y hy).1 c hc, (kid y (inn n a a1 y hy).1 c hc).2⟩) hxa _ (build_dep (f := f) (n := n) (k := b)) (fit n b b1 (by omega)) (fun y hy c hc => ⟨parK y (inn n b b1 y hy).1 c hc, (kid y (inn n b b1 y hy).1 c hc).2⟩) hxb (by rw [build_key, build_key, a2, b2])
        rw [build_key, build_key] at this
        exact hne this
  have fitT := fit (deep - 1) n0 n0in (by omega)
  have hpar : ∀ k ∈ names, k ≠ n0 → ∃ p ∈ names, k ∈ f p := fun k hk hne => by
    have : k ∈ names.tail := by rw [hcons] at hk; rcases List.mem_cons.mp hk with h | h
                                · exact (hne h).elim
                                · exact h
    obtain ⟨p, hp, hkp⟩ := List.mem_flatMap.mp (perm.mem_iff.mpr this)
    exact ⟨p, hp, hkp⟩
  have sub : ∀ m k, k ∈ names → lev k ≤ m → ∃ s, Sub s (build f (deep - 1) n0) ∧ s.key = k := by
    intro m
    induction m with
    | zero => intro k hk h; have := (lv k hk).1; omega
    | succ m ih =>
      intro k hk h
      by_cases e : k = n0
      · subst e; exact ⟨_, .refl _, build_key⟩
      · obtain ⟨p, hp, hkp⟩ := hpar k hk e
        have hb := (kid p hp k hkp).2
        obtain ⟨s, hs, rfl⟩ := ih p hp (by omega)
        obtain ⟨q, cs⟩ := s
        have fs := hs.fits fitT
        rw [Fits] at fs
        rw [show (T.node q cs).key = q from rfl, fs.1] at hkp
        obtain ⟨c, hc, rfl⟩ := List.mem_map.mp hkp
        exact ⟨c, Sub.trans (.kid hc (.refl c)) hs, rfl⟩
  have up : ∀ m k, k ∈ names → lev k ≤ m → ∃ l, Up (parOf names f) k (k :: l) ∧ l.length + 1 = lev k ∧ ∀ x ∈ l, x ∈ names ∧ lev x < lev k := by
    intro m
    induction m with
    | zero => intro k hk h; have := (lv k hk).1; omega
    | succ m ih =>
      intro k hk h
      by_cases e : k = n0
      · subst e; exact ⟨[], .root root, by simp [l0], fun x hx => by cases hx⟩
      · obtain ⟨p, hp, hkp⟩ := hpar k hk e
        have hb := (kid p hp k hkp).2
        obtain ⟨l, hu, hll, hx⟩ := ih p hp (by omega)
        refine ⟨p :: l, .step (parK p hp k hkp) hu, by simp; omega, fun x hx' => ?_⟩
        rcases List.mem_cons.mp hx' with rfl | hx'
        · exact ⟨hp, by omega⟩
        · exact ⟨(hx x hx').1, by have := (hx x hx').2; omega⟩
  refine ⟨build_key, ⟨fitT, fun k hk => parK k (inn _ _ n0in k hk).1, by rw [build_key]; exact root⟩, parS, fun k => ⟨fun h => (inn _ _ n0in k h).1, fun h => ?_⟩, pn _ _ n0in (by omega), Nat.le_trans build_dep (by omega), fun k hk => sub _ k hk (Nat.le_refl _), fun k l hk hu => ?_, fun k hk => ?_⟩
  · obtain ⟨s, hs, rfl⟩ := sub _ k h (Nat.le_refl _)
    exact hs.pre _ (key_mem s)
  · obtain ⟨l', hu', hll, hx⟩ := up _ k hk (Nat.le_refl _)
    rw [hu.uniq hu', List.length_cons, hll]
  · obtain ⟨l, hu, hll, hx⟩ := up _ k hk (Nat.le_refl _)
    have := (lv k hk).2
    exact ⟨l, hu, by omega, fun x h => (hx x h).1, fun h => by have := (hx k h).2; omega⟩
theorem Plant.ok {names : List Str} {n0 : Str} {f : Str → List Str} {par : Str → Option Str} {lev : Str → Nat} {t : T} (p : Plant names n0 f par lev t) (hl : names.length ≤ 600) (hk : ∀ k ∈ names, KeyOk k) : TOk t :=
  ⟨Nat.le_trans (len_sub p.nd fun x hx => (p.mem x).mp hx) (by omega), Nat.le_trans p.dep (by decide), fun k h => hk k ((p.mem k).mp h)⟩
end LK
namespace LK
open PySem PySem.Spec PyProof.Rows L2 DS MA
open TL (joinL tl_join join_eq)
def cpl (x : Str) : List Nat := x.cps.toList
theorem cpl_inj {x y : Str} (h : cpl x = cpl y) : x = y := by
  obtain ⟨a⟩ := x; obtain ⟨b⟩ := y
  have : a = b := Array.toList_inj.mp h
  rw [this]
theorem cpl_app (u v : Str) : cpl (u ++ v) = cpl u ++ cpl v := by
  show (u.cps ++ v.cps).toList = _
  simp [cpl]
theorem cpl_rep (x : Str) (n : Nat) : cpl (repS x n) = (List.replicate n (cpl x)).flatten := rfl
theorem cpl_join (y : Str) (parts : List Str) : cpl (Txt.join y parts) = joinL (cpl y) (parts.map cpl) := by
  rw [join_eq]; exact tl_join y parts
theorem joinL_cons {S p : List Nat} {r : List (List Nat)} (h : r ≠ []) : joinL S (p :: r) = p ++ (S ++ joinL S r) := by
  cases r with
  | nil => exact (h rfl).elim
  | cons q r => rw [joinL]
theorem joinL_append {S : List Nat} : ∀ {a b : List (List Nat)}, a ≠ [] → b ≠ [] → joinL S (a ++ b) = joinL S a ++ (S ++ joinL S b)
  | [], _, h, _ => (h rfl).elim
  | [p], b, _, h => by rw [List.singleton_append, joinL_cons h, joinL]
  | p :: q :: r, b, _, h => by
    rw [List.cons_append, joinL_cons (by simp), joinL_append (by simp) h, joinL_cons (r := q :: r) (by simp)]
    simp
theorem joinL_flat {S p : List Nat} : ∀ {gs : List (List (List Nat))}, (∀ g ∈ gs, g ≠ []) → joinL S (p :: gs.map (joinL S)) = joinL S (p :: gs.flatten)
  | [], _ => rfl
  | g :: r, h => by
    have hg := h g (List.mem_cons_self ..)
    have ih := joinL_flat (S := S) (p := p) (gs := r) fun x hx => h x (List.mem_cons_of_mem _ hx)
    rw [List.map_cons, List.flatten_cons]
    cases r with
    | nil => rw [List.map_nil, List.flatten_nil, List.append_nil, joinL_cons (by simp), joinL_cons hg]; simp [joinL]
    | cons g2 r =>
      have n1 : ((g2 :: r).map (joinL S)) ≠ [] := by simp
      have n2 : (g2 :: r).flatten ≠ [] := by
        have := h g2 (List.mem_cons_of_mem _ (List.mem_cons_self ..))
        intro z; rw [List.flatten_cons] at z; exact this (List.append_eq_nil_iff.mp z).1
      rw [joinL_cons n1, joinL_cons n2] at ih
      have ih2 := List.append_cancel_left (List.append_cancel_left ih)
      rw [joinL_cons (by simp), joinL_cons n1, joinL_cons (by simp [hg]), joinL_append hg n2, ih2]
mutual
def linesT : Nat → T → List Str
  | d, .node k cs => (repS "  " d ++ k) :: linesL (d + 1) cs
def linesL : Nat → List T → List Str
  | _, [] => []
  | d, t :: r => linesT d t ++ linesL d r
end
mutual
def textT : Nat → T → Str
  | d, .node k cs => Txt.join "\n" ((repS " " (2 * d) ++ k) :: textL (d + 1) cs)
def textL : Nat → List T → List Str
  | _, [] => []
  | d, t :: r => textT d t :: textL d r
end
theorem rep_two (d : Nat) : repS "  " d = repS " " (2 * d) := by
  apply cpl_inj
  rw [cpl_rep, cpl_rep]
  have e1 : cpl "  " = [32, 32] := by decide +kernel
  have e2 : cpl " " = [32] := by decide +kernel
  rw [e1, e2]
  induction d with
  | zero => rfl
  | succ d ih => rw [List.replicate_succ, List.flatten_cons, ih, show 2 * (d + 1) = (2 * d + 1) + 1 by omega, List.replicate_succ, List.flatten_cons, List.replicate_succ, List.flatten_cons]; rfl
theorem linesT_ne (d : Nat) (t : T) : linesT d t ≠ [] := by cases t; rw [linesT]; simp
mutual
theorem text_lines : ∀ (d : Nat) (t : T), textT d t = Txt.join "\n" (linesT d t)
  | d, .node k cs => by
    apply cpl_inj
    obtain ⟨gs, h1, h2, h3⟩ := textL_lines (d + 1) cs
    rw [textT, linesT, cpl_join, cpl_join, List.map_cons, List.map_cons, h1, h2, joinL_flat h3, rep_two]
theorem textL_lines : ∀ (d : Nat) (ts : List T), ∃ gs : List (List (List Nat)), (textL d ts).map cpl = gs.map (joinL (cpl "\n")) ∧ (linesL d ts).map cpl = gs.flatten ∧ ∀ g ∈ gs, g ≠ []
  | _, [] => ⟨[], by rw [textL]; rfl, by rw [linesL]; rfl, fun g hg => by cases hg⟩
  | d, t :: r => by
    obtain ⟨gs, h1, h2, h3⟩ := textL_lines d r
    refine ⟨(linesT d t).map cpl :: gs, ?_, ?_, fun g hg => ?_⟩
    · rw [textL, List.map_cons, List.map_cons, h1, text_lines d t, cpl_join]
    · rw [linesL, List.map_append, List.flatten_cons, h2]
    · rcases List.mem_cons.mp hg with rfl | hg
      · intro z; exact linesT_ne d t (List.map_eq_nil_iff.mp z)
      · exact h3 g hg
end
theorem linesL_append : ∀ (d : Nat) (a b : List T), linesL d (a ++ b) = linesL d a ++ linesL d b
  | d, [], b => by rw [List.nil_append, linesL]; rfl
  | d, t :: r, b => by rw [List.cons_append, linesL, linesL, linesL_append d r b, List.append_assoc]
mutual
theorem linesT_len : ∀ (d : Nat) (t : T), (linesT d t).length = (pre t).length
  | d, .node k cs => by rw [linesT, pre, List.length_cons, List.length_cons, linesL_len (d + 1) cs]
theorem linesL_len : ∀ (d : Nat) (ts : List T), (linesL d ts).length = (preL ts).length
  | _, [] => by rw [linesL, preL]
  | d, t :: r => by rw [linesL, preL, List.length_append, List.length_append, linesT_len d t, linesL_len d r]
end
mutual
theorem line_len : ∀ (d : Nat) (t : T), (∀ k ∈ pre t, k.length ≤ 61) → ∀ x ∈ linesT d t, x.length ≤ 2 * (d + dep t) + 61
  | d, .node k cs, h => by
    rw [linesT, dep]
    rw [pre] at h
    intro x hx
    rcases List.mem_cons.mp hx with rfl | hx
    · have h1 := h k (List.mem_cons_self ..)
      have h2 : (repS "  " d).length = 2 * d := by rw [repS_length]; rfl
      show (repS "  " d ++ k).cps.size ≤ _
      show ((repS "  " d).cps ++ k.cps).size ≤ _
      rw [Array.size_append]
      have h3 : (repS "  " d).cps.size = 2 * d := h2
      have h4 : k.cps.size ≤ 61 := h1
      omega
    · have := lineL_len (d + 1) cs (fun y hy => h y (List.mem_cons_of_mem _ hy)) x hx
      omega
theorem lineL_len : ∀ (d : Nat) (ts : List T), (∀ k ∈ preL ts, k.length ≤ 61) → ∀ x ∈ linesL d ts, x.length ≤ 2 * (d + depL ts) + 61
  | _, [], _ => by intro x hx; rw [linesL] at hx; cases hx
  | d, t :: r, h => by
    rw [linesL, depL]
    rw [preL] at h
    intro x hx
    rcases List.mem_append.mp hx with hx | hx
    · have := line_len d t (fun y hy => h y (List.mem_append_left _ hy)) x hx; omega
    · have := lineL_len d r (fun y hy => h y (List.mem_append_right _ hy)) x hx; omega
end
theorem sum_le {l : List Nat} {n : Nat} (h : ∀ x ∈ l, x ≤ n) : l.sum ≤ l.length * n := by
  induction l with
  | nil => simp
  | cons a r ih =>
    rw [List.sum_cons, List.length_cons, Nat.add_mul]
    have := h a (List.mem_cons_self ..); have := ih fun x hx => h x (List.mem_cons_of_mem _ hx)
    omega
end LK
namespace LK
open PySem PySem.Spec PyProof.Rows L2 DS MA
open TL (joinL tl_join join_eq)
theorem joinL_len {S : List Nat} : ∀ l : List (List Nat), (joinL S l).length ≤ (l.map (·.length)).sum + l.length * S.length
  | [] => by simp [joinL]
  | [p] => by simp [joinL]
  | p :: q :: r => by
    have := joinL_len (S := S) (q :: r)
    rw [joinL, List.map_cons, List.sum_cons, List.length_append, List.length_append, List.length_cons, Nat.add_mul]
    omega
theorem join_len (y : Str) (parts : List Str) : (Txt.join y parts).length ≤ (parts.map (·.length)).sum + parts.length * y.length := by
  have h := joinL_len (S := cpl y) (parts.map cpl)
  rw [← cpl_join, List.map_map, List.length_map] at h
  exact h
theorem keyLen {k : Str} (h : KeyOk k) : k.length ≤ 61 := h.2
theorem textT_len {d : Nat} {t : T} (h : ∀ k ∈ pre t, KeyOk k) (hd : d + dep t ≤ 100) : (textT d t).length ≤ 262 * (pre t).length := by
  rw [text_lines]
  have h1 := join_len "\n" (linesT d t)
  have h2 : ((linesT d t).map (·.length)).sum ≤ (linesT d t).length * 261 := by
    have := sum_le (l := (linesT d t).map (·.length)) (n := 261) fun x hx => by
      obtain ⟨y, hy, rfl⟩ := List.mem_map.mp hx
      have := line_len d t (fun k hk => keyLen (h k hk)) y hy
      omega
    rw [List.length_map] at this; exact this
  have h3 : ("\n" : Str).length = 1 := rfl
  rw [h3, linesT_len] at h1
  rw [linesT_len] at h2
  omega
theorem join_L {μ : Mu} {Q : SD → Mu → Prop} {a : Str} {l : List Str} (h : (l.map (·.length)).sum + l.length * a.length ≤ 16777216) (q : Q (.str (Txt.join a l)) μ) : drJoin (.str a) (.lst (sts l)) μ Q := by
  unfold drJoin sts
  simp only [seqD, strsOf_map]
  exact ⟨h, q⟩
def sp_tree_lines (n : Nat) : DSp := fun ds μ Q _ => ∃ (t : T) (d : Nat), ds = [enc t, .int d] ∧ dep t ≤ n ∧ d + dep t ≤ 100 ∧ (pre t).length ≤ 1000 ∧ (∀ k ∈ pre t, KeyOk k) ∧ ∀ μ', Le μ μ' → Q (.lst (sts (linesT d t))) μ'
theorem no_tree_lines {ds μ Q E} (h : sp_tree_lines 0 ds μ Q E) : False := by
  obtain ⟨⟨k, cs⟩, d, rfl, h, _⟩ := h; rw [dep] at h; omega
theorem len_tree_lines {n} : ∀ ds μ Q E, sp_tree_lines n ds μ Q E → ds.length = 2 := by rintro ds μ Q E ⟨t, d, rfl, _⟩; rfl
def t_tree_lines (n : Nat) : DTS := (dSeq (dAsg (dVar 0) (hTup 2 (hCons (hName 2) (hCons (hName 3) hNil))))
    (dSeq (dSet (dLstM (dCons (dOp dAdd (dOp dMul (dC (.str "  ")) (dVar 1)) (dVar 2)) dNil)) 4)
    (dSeq (dFor (jSeq (dVar 3)) (hName 5) (dDrop (dLM dmExtend (dVar 4) (dCons (dCall (sp_tree_lines n) [] (dCons (dVar 5) (dCons (dOp dAdd (dVar 1) (dC (.int 1))) dNil))) dNil))))
    (dRetF (dVar 4)))))
theorem read_tree_lines (n : Nat) : ∀ ds μ Q E, sp_tree_lines (n + 1) ds μ Q E → t_tree_lines n { nx := fun _ μ' => Q .non μ', rt := Q } (begin_ ["tree", "depth", "key", "children", "found", "child"] ds) μ := by
  rintro ds μ Q E ⟨⟨k, cs⟩, d, rfl, hd, hdd, hl, hk, q⟩
  unfold t_tree_lines
  rw [dep] at hd hdd
  rw [pre] at hl hk
  rw [List.length_cons] at hl
  refine r_var rfl ?_
  refine ⟨rfl, rfl, ?_⟩
  dsimp only
  refine r_var rfl ?_
  refine s_mul ⟨by omega, by omega, by rw [sizeLine_eq]; show 2 * _ ≤ _; omega⟩ ?_
  rw [Int.toNat_natCast]
  refine r_var rfl ?_
  have k0 := keyLen (hk k (List.mem_cons_self ..))
  refine s_add (by rw [repS_length, sizeLine_eq]; show 2 * d + _ ≤ _; omega) ?_
  refine ⟨(by show 1 ≤ sizeLine; decide), fun p hp => ?_⟩
  dsimp only
  refine for_T (xs := encL cs) rfl ⟨fun i ρ μ' => ∃ a : Option SD, ρ = [some (enc (.node k cs)), some (.int d), some (.str k), some (.tup (encL cs)), some (.ref p), a] ∧ Le μ μ' ∧ μ' p = some (.lst (sts ((repS "  " d ++ k) :: linesL (d + 1) (cs.take i)))), ?_, ?_, ?_⟩
  · exact ⟨none, rfl, (Le.refl μ).up hp, by rw [up_same]; simp [linesL, sts]⟩
  · rintro i x ρ μ' hx ⟨a, rfl, le, hp'⟩
    rw [encL_map, List.getElem?_map] at hx
    cases e : cs[i]? with
    | none => rw [e] at hx; cases hx
    | some c =>
      rw [e] at hx; cases hx
      have hc := List.mem_of_getElem? e
      refine r_var rfl ⟨isSome_ref hp', ?_⟩
      refine r_var rfl ?_
      refine r_var rfl ?_
      refine i_add ?_
      have h1 := depL_mem hc
      have h2 := preL_len hc
      have tk : linesL (d + 1) (cs.take (i + 1)) = linesL (d + 1) (cs.take i) ++ linesT (d + 1) c := by
        rw [List.take_succ, e, linesL_append]; simp [linesL]
      have lt : (linesL (d + 1) (cs.take (i + 1))).length ≤ (preL cs).length := by
        rw [linesL_len]
        conv => rhs; rw [← List.take_append_drop (i + 1) cs, preL_append]
        simp
      rw [tk, List.length_append] at lt
      refine ⟨c, d + 1, rfl, by omega, by omega, by omega, fun x hx => hk x (List.mem_cons_of_mem _ (preL_sub hc x hx)), fun μ2 le2 => ?_⟩
      refine dm_extendL (le2 _ _ hp') (le_line (m := 2000) (by simp [sts]; omega) (by omega)) ?_
      refine ⟨_, rfl, (le.trans le2).up hp, ?_⟩
      rw [up_same, tk]; simp [sts]
  · rintro ρ μ' ⟨a, rfl, le, hp'⟩
    dsimp only
    refine r_var rfl ?_
    unfold frz
    simp only [hp']
    have e : cs.take (encL cs).length = cs := List.take_of_length_le (by rw [encL_length]; exact Nat.le_refl _)
    rw [e]
    have := q _ (le.rm hp)
    rw [linesT] at this; exact this
def sp_show_tree : DSp := fun ds μ Q _ => ∃ t, ds = [enc t] ∧ TOk t ∧ dep t ≤ 24 ∧ ∀ μ', Le μ μ' → Q (.str (textT 0 t)) μ'
theorem len_show_tree : ∀ ds μ Q E, sp_show_tree ds μ Q E → ds.length = 1 := by rintro ds μ Q E ⟨t, rfl, _⟩; rfl
def t_show_tree : DTS := (dRet (dJoin (dC (.str "\n")) (dCall (sp_tree_lines 24) [] (dCons (dVar 0) (dCons (dC (.int 0)) dNil)))))
theorem read_show_tree : ∀ ds μ Q E, sp_show_tree ds μ Q E → t_show_tree { nx := fun _ μ' => Q .non μ', rt := Q } (begin_ ["tree"] ds) μ := by
  rintro ds μ Q E ⟨t, rfl, ok, d24, q⟩
  unfold t_show_tree
  refine ⟨rfl, ?_⟩
  refine r_var rfl ?_
  have okl := ok.len
  refine ⟨t, 0, rfl, d24, by omega, ok.len, ok.keys, fun μ' le => ?_⟩
  refine join_L ?_ (by have := q μ' le; rw [text_lines] at this; exact this)
  have h2 : ((linesT 0 t).map (·.length)).sum ≤ (linesT 0 t).length * 261 := by
    have := sum_le (l := (linesT 0 t).map (·.length)) (n := 261) fun x hx => by
      obtain ⟨y, hy, rfl⟩ := List.mem_map.mp hx
      have := line_len 0 t (fun k hk => keyLen (ok.keys k hk)) y hy
      omega
    rw [List.length_map] at this; exact this
  rw [linesT_len] at h2 ⊢
  show _ + _ * 1 ≤ _
  omega
end LK
namespace LK
open PySem PySem.Spec PyProof.Rows L2 DS MA
/-- a dict of lists in memory -/
structure LMem (μ : Mu) (pl : Addr) (ks : List Str) (f : Str → List Str) (ad : Str → Addr) : Prop where
  l : dicD μ (.ref pl) = some (ks.map fun k => (.inr k, .ref (ad k)))
  k : ∀ k ∈ ks, μ (ad k) = some (.lst (sts (f k)))
theorem LMem.get {μ : Mu} {pl : Addr} {ks : List Str} {f : Str → List Str} {ad : Str → Addr} (M : LMem μ pl ks f ad) {k : Str} (h : k ∈ ks) : valD (ks.map fun k => ((Sum.inr k : Key), SD.ref (ad k))) (.inr k) = some (.ref (ad k)) := by
  rw [valD_mapk (g := fun k => SD.ref (ad k)), if_pos h]
end LK
namespace LK
open PySem PySem.Spec PyProof.Rows L2 DS MA
def refsD (ks : List Str) (ad : Str → Addr) : List (Key × SD) := ks.map fun k => (.inr k, .ref (ad k))
end LK
namespace MA
open PySem PySem.Spec PyProof.Rows L2 DS
def okKy : Key → Prop
  | .inl _ => False
  | .inr s => PyData.strOk s = true
def wtKy : Key → Nat
  | .inl _ => 0
  | .inr s => s.cps.size
mutual
def okV (m : Nat) : SD → Prop
  | .non => True
  | .bl _ => True
  | .int i => i.natAbs ≤ 10 ^ 20 + m
  | .str x => PyData.strOk x = true
  | .ref _ => False
  | .ty _ => False
  | .tup xs => okVL m xs
  | .lst xs => okVL m xs
  | .rol _ => False
  | .exc _ _ => False
  | .ptp _ => False
  | .dic kvs => okVK m kvs
def okVL (m : Nat) : List SD → Prop
  | [] => True
  | d :: r => okV m d ∧ okVL m r
def okVK (m : Nat) : List (Key × SD) → Prop
  | [] => True
  | (k, d) :: r => okKy k ∧ okV m d ∧ okVK m r
end
mutual
def dpV : SD → Nat
  | .non => 0
  | .bl _ => 0
  | .int _ => 0
  | .str _ => 0
  | .ref _ => 0
  | .ty _ => 0
  | .tup xs => dpVL xs + 1
  | .lst xs => dpVL xs + 1
  | .rol _ => 0
  | .exc _ _ => 0
  | .ptp _ => 0
  | .dic kvs => dpVK kvs + 1
def dpVL : List SD → Nat
  | [] => 0
  | d :: r => max (dpV d) (dpVL r)
def dpVK : List (Key × SD) → Nat
  | [] => 0
  | (_, d) :: r => max (dpV d) (dpVK r)
end
mutual
def wtV : SD → Nat
  | .non => 0
  | .bl _ => 0
  | .int _ => 0
  | .str x => x.cps.size
  | .ref _ => 0
  | .ty _ => 0
  | .tup xs => wtVL xs
  | .lst xs => wtVL xs
  | .rol _ => 0
  | .exc _ _ => 0
  | .ptp _ => 0
  | .dic kvs => wtVK kvs
def wtVL : List SD → Nat
  | [] => 0
  | d :: r => wtV d + 1 + wtVL r
def wtVK : List (Key × SD) → Nat
  | [] => 0
  | (k, d) :: r => wtKy k + wtV d + 2 + wtVK r
end
theorem okVL_mem {m : Nat} {xs : List SD} : okVL m xs ↔ ∀ d ∈ xs, okV m d := by
  induction xs with
  | nil => simp [okVL]
  | cons x r ih => rw [okVL, ih]; simp
theorem dpVL_le {n : Nat} {xs : List SD} : dpVL xs ≤ n ↔ ∀ d ∈ xs, dpV d ≤ n := by
  induction xs with
  | nil => simp [dpVL]
  | cons x r ih => rw [dpVL, Nat.max_le, ih]; simp
theorem wtVL_append (a b : List SD) : wtVL (a ++ b) = wtVL a + wtVL b := by
  induction a with
  | nil => simp [wtVL]
  | cons x r ih => rw [List.cons_append, wtVL, wtVL, ih]; omega
theorem wtVL_reverse (a : List SD) : wtVL a.reverse = wtVL a := by
  induction a with
  | nil => rfl
  | cons x r ih => rw [List.reverse_cons, wtVL_append, ih, wtVL, wtVL, wtVL]; omega
theorem wtVL_cut (a : List SD) (k : Nat) : wtVL (a.take k) + wtVL (a.drop k) = wtVL a := by rw [← wtVL_append, List.take_append_drop]
theorem wtVL_mem {xs : List SD} {d : SD} (h : d ∈ xs) : wtV d + 1 ≤ wtVL xs := by
  obtain ⟨s, t, rfl⟩ := List.append_of_mem h
  rw [wtVL_append, wtVL]; omega
theorem len_wtVL (xs : List SD) : xs.length ≤ wtVL xs := by
  induction xs with
  | nil => simp
  | cons x r ih => rw [wtVL, List.length_cons]; omega
/-- a value: its ints no greater, no deeper, no heavier -/
structure Val (m D B : Nat) (d : SD) : Prop where
  ok : okV m d
  dp : dpV d ≤ D
  wt : wtV d ≤ B
structure ValL (m D B : Nat) (xs : List SD) : Prop where
  ok : okVL m xs
  dp : dpVL xs ≤ D
  wt : wtVL xs ≤ B
mutual
theorem okV_mono {m m' : Nat} (h : m ≤ m') : ∀ {d : SD}, okV m d → okV m' d
  | .non, _ => by rw [okV]; trivial
  | .bl _, _ => by rw [okV]; trivial
  | .int i, q => by rw [okV] at q ⊢; omega
  | .str x, q => by rw [okV] at q ⊢; exact q
  | .ref _, q => by rw [okV] at q; exact q.elim
  | .ty _, q => by rw [okV] at q; exact q.elim
  | .tup xs, q => by rw [okV] at q ⊢; exact okVL_mono h q
  | .lst xs, q => by rw [okV] at q ⊢; exact okVL_mono h q
  | .rol _, q => by rw [okV] at q; exact q.elim
  | .exc _ _, q => by rw [okV] at q; exact q.elim
  | .ptp _, q => by rw [okV] at q; exact q.elim
  | .dic kvs, q => by rw [okV] at q ⊢; exact okVK_mono h q
theorem okVL_mono {m m' : Nat} (h : m ≤ m') : ∀ {xs : List SD}, okVL m xs → okVL m' xs
  | [], _ => by rw [okVL]; trivial
  | d :: r, q => by rw [okVL] at q ⊢; exact ⟨okV_mono h q.1, okVL_mono h q.2⟩
theorem okVK_mono {m m' : Nat} (h : m ≤ m') : ∀ {xs : List (Key × SD)}, okVK m xs → okVK m' xs
  | [], _ => by rw [okVK]; trivial
  | (k, d) :: r, q => by rw [okVK] at q ⊢; exact ⟨q.1, okV_mono h q.2.1, okVK_mono h q.2.2⟩
end
theorem Val.mono {m D B m' D' B' : Nat} {d : SD} (v : Val m D B d) (h1 : m ≤ m') (h2 : D ≤ D') (h3 : B ≤ B') : Val m' D' B' d := ⟨okV_mono h1 v.ok, Nat.le_trans v.dp h2, Nat.le_trans v.wt h3⟩
theorem ValL.mono {m D B m' D' B' : Nat} {d : List SD} (v : ValL m D B d) (h1 : m ≤ m') (h2 : D ≤ D') (h3 : B ≤ B') : ValL m' D' B' d := ⟨okVL_mono h1 v.ok, Nat.le_trans v.dp h2, Nat.le_trans v.wt h3⟩
theorem Val.non : Val 0 0 0 .non := ⟨by rw [okV]; trivial, by rw [dpV]; exact Nat.le_refl 0, by rw [wtV]; exact Nat.le_refl 0⟩
theorem Val.bl (b : Bool) : Val 0 0 0 (.bl b) := ⟨by rw [okV]; trivial, by rw [dpV]; exact Nat.le_refl 0, by rw [wtV]; exact Nat.le_refl 0⟩
theorem Val.int {m : Nat} {i : Int} (h : i.natAbs ≤ 10 ^ 20 + m) : Val m 0 0 (.int i) := ⟨by rw [okV]; exact h, by rw [dpV]; exact Nat.le_refl 0, by rw [wtV]; exact Nat.le_refl 0⟩
theorem Val.str {x : Str} (h : PyData.strOk x = true) : Val 0 0 x.cps.size (.str x) := ⟨by rw [okV]; exact h, by rw [dpV]; exact Nat.le_refl 0, by rw [wtV]; exact Nat.le_refl _⟩
theorem Val.dic : Val 0 1 0 (.dic []) := ⟨by rw [okV, okVK]; trivial, by rw [dpV, dpVK]; exact Nat.le_refl 1, by rw [wtV, wtVK]; exact Nat.le_refl 0⟩
theorem Val.dic1 {m D B : Nat} {k : Str} {d : SD} (hk : PyData.strOk k = true) (v : Val m D B d) : Val m (D + 1) (k.cps.size + B + 2) (.dic [(.inr k, d)]) :=
  ⟨by rw [okV, okVK, okVK]; exact ⟨hk, v.ok, trivial⟩, by have := v.dp; rw [dpV, dpVK, dpVK]; omega, by have := v.wt; rw [wtV, wtVK, wtVK, wtKy]; omega⟩
theorem ValL.nil : ValL 0 0 0 [] := ⟨by rw [okVL]; trivial, by rw [dpVL]; exact Nat.le_refl 0, by rw [wtVL]; exact Nat.le_refl 0⟩
theorem ValL.cons {m D B C : Nat} {d : SD} {r : List SD} (v : Val m D B d) (w : ValL m D C r) : ValL m D (B + 1 + C) (d :: r) :=
  ⟨by rw [okVL]; exact ⟨v.ok, w.ok⟩, by rw [dpVL]; exact Nat.max_le.mpr ⟨v.dp, w.dp⟩, by have := v.wt; have := w.wt; rw [wtVL]; omega⟩
theorem ValL.one {m D B : Nat} {d : SD} (v : Val m D B d) : ValL m D (B + 1) [d] := ValL.cons v (ValL.nil.mono (Nat.zero_le _) (Nat.zero_le _) (Nat.le_refl 0))
theorem ValL.append {m D B C : Nat} {a b : List SD} (v : ValL m D B a) (w : ValL m D C b) : ValL m D (B + C) (a ++ b) :=
  ⟨okVL_mem.mpr fun d hd => (List.mem_append.mp hd).elim (okVL_mem.mp v.ok d) (okVL_mem.mp w.ok d), dpVL_le.mpr fun d hd => (List.mem_append.mp hd).elim (dpVL_le.mp v.dp d) (dpVL_le.mp w.dp d), by have := v.wt; have := w.wt; rw [wtVL_append]; omega⟩
theorem ValL.take {m D B : Nat} {a : List SD} (v : ValL m D B a) (k : Nat) : ValL m D B (a.take k) :=
  ⟨okVL_mem.mpr fun d hd => okVL_mem.mp v.ok d (List.mem_of_mem_take hd), dpVL_le.mpr fun d hd => dpVL_le.mp v.dp d (List.mem_of_mem_take hd), by have := v.wt; have := wtVL_cut a k; omega⟩
theorem ValL.drop {m D B : Nat} {a : List SD} (v : ValL m D B a) (k : Nat) : ValL m D B (a.drop k) :=
  ⟨okVL_mem.mpr fun d hd => okVL_mem.mp v.ok d (List.mem_of_mem_drop hd), dpVL_le.mpr fun d hd => dpVL_le.mp v.dp d (List.mem_of_mem_drop hd), by have := v.wt; have := wtVL_cut a k; omega⟩
theorem ValL.reverse {m D B : Nat} {a : List SD} (v : ValL m D B a) : ValL m D B a.reverse :=
  ⟨okVL_mem.mpr fun d hd => okVL_mem.mp v.ok d (List.mem_reverse.mp hd), dpVL_le.mpr fun d hd => dpVL_le.mp v.dp d (List.mem_reverse.mp hd), by have := v.wt; rw [wtVL_reverse]; exact this⟩
theorem ValL.of {m D B n : Nat} {a : List SD} (h : ∀ d ∈ a, Val m D B d) (hn : a.length ≤ n) : ValL m D (n * (B + 1)) a := by
  refine ⟨okVL_mem.mpr fun d hd => (h d hd).ok, dpVL_le.mpr fun d hd => (h d hd).dp, Nat.le_trans ?_ (Nat.mul_le_mul_right _ hn)⟩
  clear hn
  induction a with
  | nil => simp [wtVL]
  | cons x r ih =>
    have := (h x (List.mem_cons_self ..)).wt
    have := ih fun d hd => h d (List.mem_cons_of_mem _ hd)
    rw [wtVL, List.length_cons, Nat.add_mul]; omega
theorem ValL.mem {m D B : Nat} {a : List SD} (v : ValL m D B a) {d : SD} (hd : d ∈ a) : Val m D B d :=
  ⟨okVL_mem.mp v.ok d hd, dpVL_le.mp v.dp d hd, by have := v.wt; have := wtVL_mem hd; omega⟩
theorem Val.tup {m D B : Nat} {a : List SD} (v : ValL m D B a) : Val m (D + 1) B (.tup a) := ⟨by rw [okV]; exact v.ok, by rw [dpV]; exact Nat.succ_le_succ v.dp, by rw [wtV]; exact v.wt⟩
theorem Val.lst {m D B : Nat} {a : List SD} (v : ValL m D B a) : Val m (D + 1) B (.lst a) := ⟨by rw [okV]; exact v.ok, by rw [dpV]; exact Nat.succ_le_succ v.dp, by rw [wtV]; exact v.wt⟩
theorem Val.pos {m D B : Nat} {a : List SD} (v : Val m D B (.tup a)) : 0 < D := by have := v.dp; rw [dpV] at this; omega
theorem int_short {m : Nat} (hm : m ≤ 10 ^ 30) {i : Int} (h : i.natAbs ≤ 10 ^ 20 + m) : (PyData.shown (.int i)).length ≤ 33 ∧ i.natAbs.log2 < 1920 := by
  have h32 : i.natAbs < 10 ^ 32 := by
    have a : (10 : Nat) ^ 20 ≤ 10 ^ 30 := by decide
    have b : (10 : Nat) ^ 32 = 10 ^ 30 * 100 := by decide
    have c : (0 : Nat) < 10 ^ 30 := by decide
    omega
  constructor
  · have := int_text_length_le10 (k := 32) (by decide) h32
    simp only [PyData.shown]
    show (Str.ofString (toString i)).length ≤ 33
    rw [PySem.ofString_length]; exact this
  · by_cases e : i.natAbs = 0
    · rw [e]; decide
    · refine (Nat.log2_lt e).mpr (Nat.lt_of_lt_of_le h32 ?_)
      decide +kernel
mutual
theorem okV_shows {m : Nat} (hm : m ≤ 10 ^ 30) : ∀ {d : SD}, okV m d → ∃ p, pvS d = some p ∧ p.depth = dpV d ∧ p.showable = true ∧ p.leavesShort 40 = true ∧ p.bulk = wtV d
  | .non, _ => ⟨.none, rfl, by simp [PyData.depth, dpV], by simp [PyData.showable], by simp [PyData.leavesShort], by simp [PyData.bulk, wtV]⟩
  | .bl b, _ => ⟨.bool b, rfl, by simp [PyData.depth, dpV], by simp [PyData.showable], by simp [PyData.leavesShort], by simp [PyData.bulk, wtV]⟩
  | .int i, q => by
    rw [okV] at q
    obtain ⟨h1, h2⟩ := int_short hm q
    exact ⟨.int i, rfl, by simp [PyData.depth, dpV], by simpa [PyData.showable] using h2, by simp only [PyData.leavesShort, decide_eq_true_eq]; omega, by simp [PyData.bulk, wtV]⟩
  | .str x, q => by
    rw [okV] at q
    refine ⟨.str x, rfl, by simp [PyData.depth, dpV], by simp [PyData.showable], ?_, by simp [PyData.bulk, wtV]⟩
    unfold PyData.leavesShort
    rw [List.all_eq_true]
    intro c hc
    have := (Array.all_eq_true_iff_forall_mem.mp q) c (by simpa using hc)
    simp at this ⊢
    omega
  | .ref _, q => by rw [okV] at q; exact q.elim
  | .ty _, q => by rw [okV] at q; exact q.elim
  | .tup xs, q => by
    rw [okV] at q
    obtain ⟨ps, e, h1, h2, h3, h4⟩ := okVL_shows hm q
    exact ⟨.tuple ps, by rw [pvS, e], by rw [PyData.depth, dpV, h1], by simp [PyData.showable, h2], by simp [PyData.leavesShort, h3], by rw [PyData.bulk, wtV, h4]⟩
  | .lst xs, q => by
    rw [okV] at q
    obtain ⟨ps, e, h1, h2, h3, h4⟩ := okVL_shows hm q
    exact ⟨.list ps, by rw [pvS, e], by rw [PyData.depth, dpV, h1], by simp [PyData.showable, h2], by simp [PyData.leavesShort, h3], by rw [PyData.bulk, wtV, h4]⟩
  | .rol _, q => by rw [okV] at q; exact q.elim
  | .exc _ _, q => by rw [okV] at q; exact q.elim
  | .ptp _, q => by rw [okV] at q; exact q.elim
  | .dic kvs, q => by
    rw [okV] at q
    obtain ⟨ps, e, h1, h2, h3, h4⟩ := okVK_shows hm q
    exact ⟨.dict ps, by rw [pvS, e], by rw [PyData.depth, dpV, h1], by simp [PyData.showable, h2], by simp [PyData.leavesShort, h3], by rw [PyData.bulk, wtV, h4]⟩
theorem okVL_shows {m : Nat} (hm : m ≤ 10 ^ 30) : ∀ {xs : List SD}, okVL m xs → ∃ ps, pvL xs = some ps ∧ PyData.depthAll ps = dpVL xs ∧ PyData.showableAll ps = true ∧ PyData.leavesShortAll 40 ps = true ∧ PyData.bulkAll ps = wtVL xs
  | [], _ => ⟨[], rfl, by simp [PyData.depthAll, dpVL], by simp [PyData.showableAll], by simp [PyData.leavesShortAll], by simp [PyData.bulkAll, wtVL]⟩
  | d :: r, q => by
    rw [okVL] at q
    obtain ⟨p, e, h1, h2, h3, h4⟩ := okV_shows hm q.1
    obtain ⟨ps, e', g1, g2, g3, g4⟩ := okVL_shows hm q.2
    exact ⟨p :: ps, by rw [pvL, e, e'], by rw [PyData.depthAll, dpVL, h1, g1], by simp [PyData.showableAll, h2, g2], by simp [PyData.leavesShortAll, h3, g3], by rw [PyData.bulkAll, wtVL, h4, g4]⟩
theorem okVK_shows {m : Nat} (hm : m ≤ 10 ^ 30) : ∀ {xs : List (Key × SD)}, okVK m xs → ∃ ps, pvK xs = some ps ∧ PyData.depthKv ps = dpVK xs ∧ PyData.showableKv ps = true ∧ PyData.leavesShortKv 40 ps = true ∧ PyData.bulkKv ps = wtVK xs
  | [], _ => ⟨[], rfl, by simp [PyData.depthKv, dpVK], by simp [PyData.showableKv], by simp [PyData.leavesShortKv], by simp [PyData.bulkKv, wtVK]⟩
  | (.inl _, d) :: r, q => by rw [okVK] at q; exact q.1.elim
  | (.inr k, d) :: r, q => by
    rw [okVK] at q
    obtain ⟨p, e, h1, h2, h3, h4⟩ := okV_shows hm q.2.1
    obtain ⟨ps, e', g1, g2, g3, g4⟩ := okVK_shows hm q.2.2
    have hk : PyData.leavesShort 40 (.str k) = true := by
      have q1 : PyData.strOk k = true := q.1
      unfold PyData.leavesShort
      rw [List.all_eq_true]
      intro c hc
      have := (Array.all_eq_true_iff_forall_mem.mp q1) c (by simpa using hc)
      simp at this ⊢
      omega
    exact ⟨(.str k, p) :: ps, by rw [pvK, e, e']; rfl, by rw [PyData.depthKv, dpVK, h1, g1]; simp [PyData.depth], by simp [PyData.showableKv, PyData.showable, h2, g2], by rw [PyData.leavesShortKv, hk, h3, g3]; rfl, by rw [PyData.bulkKv, wtVK, h4, g4]; simp [PyData.bulk, wtKy]⟩
end
/-- the text that is shown -/
def shw (d : SD) : Str := match pvS d with
  | some p => p.shown
  | none => ""
theorem r_reprV {m D B : Nat} {d d' : SD} {μ : Mu} {Q : SD → Mu → Prop} (v : Val m D B d) (nr : ∀ a, d' ≠ .ref a) (e : pvS d' = pvS d) (hm : m ≤ 10 ^ 30) (hD : D ≤ 64) (hB : B ≤ 250000) (q : Q (.str (shw d)) μ) : drReprV [d'] μ Q := by
  obtain ⟨p, e0, h1, h2, h3, h4⟩ := okV_shows hm v.ok
  have e2 : DS.pv μ d' = some p := by
    unfold DS.pv
    split
    · exact (nr _ rfl).elim
    · rw [e]; exact e0
  have es : shw d = p.shown := by unfold shw; rw [e0]
  unfold drReprV
  simp only [e2]
  refine ⟨⟨h2, ?_, by rw [h1]; exact Nat.le_trans v.dp hD⟩, by rw [← es]; exact q⟩
  have hs := PyData.shown_le_bulk 40 (by decide) p h3
  have hw := v.wt
  rw [h4] at hs
  rw [sizeLine_eq]
  have : (40 + 2) * wtV d ≤ 42 * 250000 := Nat.mul_le_mul_left _ (by omega)
  omega
def isIntD : SD → Bool
  | .int _ => true
  | .bl _ => true
  | _ => false
section
variable {m : Nat} {d : SD} {μ : Mu} {Q : SD → Mu → Prop}
theorem kit_facts : (kitB "NoneType" "str" = some false ∧ kitB "bool" "str" = some false ∧ kitB "int" "str" = some false ∧ kitB "str" "str" = some true ∧ kitB "tuple" "str" = some false ∧ kitB "list" "str" = some false ∧ kitB "dict" "str" = some false) ∧
    (kitB "NoneType" "tuple" = some false ∧ kitB "bool" "tuple" = some false ∧ kitB "int" "tuple" = some false ∧ kitB "str" "tuple" = some false ∧ kitB "tuple" "tuple" = some true ∧ kitB "list" "tuple" = some false ∧ kitB "dict" "tuple" = some false) ∧
    (kitB "NoneType" "int" = some false ∧ kitB "bool" "int" = some true ∧ kitB "int" "int" = some true ∧ kitB "str" "int" = some false ∧ kitB "tuple" "int" = some false ∧ kitB "list" "int" = some false ∧ kitB "dict" "int" = some false) := by decide +kernel
theorem isi_str (v : okV m d) (q : Q (.bl (isStr d)) μ) : drIsi [d, .ty "str"] μ Q := by
  obtain ⟨⟨a1, a2, a3, a4, a5, a6, a7⟩, _⟩ := kit_facts
  cases d with
  | non => exact isi_of rfl a1 q
  | bl b => exact isi_of rfl a2 q
  | int i => exact isi_of rfl a3 q
  | str x => exact isi_of rfl a4 q
  | tup xs => exact isi_of rfl a5 q
  | lst xs => exact isi_of rfl a6 q
  | dic kvs => exact isi_of rfl a7 q
  | _ => rw [okV] at v; exact v.elim
theorem isi_tup (v : okV m d) (q : Q (.bl (isTup d)) μ) : drIsi [d, .ty "tuple"] μ Q := by
  obtain ⟨_, ⟨a1, a2, a3, a4, a5, a6, a7⟩, _⟩ := kit_facts
  cases d with
  | non => exact isi_of rfl a1 q
  | bl b => exact isi_of rfl a2 q
  | int i => exact isi_of rfl a3 q
  | str x => exact isi_of rfl a4 q
  | tup xs => exact isi_of rfl a5 q
  | lst xs => exact isi_of rfl a6 q
  | dic kvs => exact isi_of rfl a7 q
  | _ => rw [okV] at v; exact v.elim
theorem isi_int (v : okV m d) (q : Q (.bl (isIntD d)) μ) : drIsi [d, .ty "int"] μ Q := by
  obtain ⟨_, _, ⟨a1, a2, a3, a4, a5, a6, a7⟩⟩ := kit_facts
  cases d with
  | non => exact isi_of rfl a1 q
  | bl b => exact isi_of rfl a2 q
  | int i => exact isi_of rfl a3 q
  | str x => exact isi_of rfl a4 q
  | tup xs => exact isi_of rfl a5 q
  | lst xs => exact isi_of rfl a6 q
  | dic kvs => exact isi_of rfl a7 q
  | _ => rw [okV] at v; exact v.elim
end
end MA
namespace LK
open PySem PySem.Spec PyProof.Rows L2 DS MA
mutual
theorem enc_val : ∀ t : T, (∀ k ∈ pre t, KeyOk k) → Val 0 (2 * dep t) (64 * (pre t).length - 1) (enc t)
  | .node k cs, h => by
    rw [pre] at h
    have gs := encL_val cs fun x hx => h x (List.mem_cons_of_mem _ hx)
    obtain ⟨k1, k2⟩ := h k (List.mem_cons_self ..)
    rw [enc, dep, pre]
    have g2 := ValL.cons ((Val.str k1).mono (m' := 0) (D' := 2 * depL cs + 1) (Nat.le_refl _) (Nat.zero_le _) k2) (ValL.one ((Val.tup gs).mono (Nat.le_refl _) (Nat.le_refl _) (Nat.le_refl _)))
    refine (Val.tup g2).mono (Nat.le_refl _) (by omega) ?_
    rw [List.length_cons]; omega
theorem encL_val : ∀ ts : List T, (∀ k ∈ preL ts, KeyOk k) → ValL 0 (2 * depL ts) (64 * (preL ts).length) (encL ts)
  | [], _ => by rw [encL]; exact ValL.nil.mono (Nat.le_refl _) (Nat.zero_le _) (Nat.zero_le _)
  | t :: r, h => by
    rw [preL] at h
    have g := enc_val t fun x hx => h x (List.mem_append_left _ hx)
    have gs := encL_val r fun x hx => h x (List.mem_append_right _ hx)
    have := pre_pos t
    rw [encL, depL, preL]
    refine (ValL.cons (g.mono (m' := 0) (D' := 2 * max (dep t) (depL r)) (Nat.le_refl _) (by omega) (Nat.le_refl _)) (gs.mono (m' := 0) (D' := 2 * max (dep t) (depL r)) (Nat.le_refl _) (by omega) (Nat.le_refl _))).mono (Nat.le_refl _) (Nat.le_refl _) ?_
    rw [List.length_append]; omega
end
end LK
namespace LK
open PySem PySem.Spec PyProof.Rows L2 DS MA
section
variable {μ : Mu} {Q : SD → Mu → Prop} {m n : Int} {c : Nat} {z : Str}
theorem i_eq (q : Q (.bl (decide (m = n))) μ) : dEq false (.int m) (.int n) μ Q := by
  have : eqD μ (.int m) (.int n) = some (decide (m = n)) := by simp [eqD]
  unfold dEq; rw [this]
  show Q (.bl (false != decide (m = n))) μ
  rw [Bool.false_bne]; exact q
theorem i_ne (q : Q (.bl (!decide (m = n))) μ) : dEq true (.int m) (.int n) μ Q := by
  have : eqD μ (.int m) (.int n) = some (decide (m = n)) := by simp [eqD]
  unfold dEq; rw [this]
  show Q (.bl (true != decide (m = n))) μ
  rw [Bool.true_bne]; exact q
theorem in_sign (q : Q (.bl (decide (c ∈ z.cps.toList))) μ) : dIn false (.str ⟨#[c]⟩) (.str z) μ Q := by
  show Q (.bl (false != decide (c ∈ z.cps.toList))) μ
  rw [Bool.false_bne]; exact q
theorem bls_all {bs : List Bool} (q : Q (.bl (bs.all _root_.id)) μ) : drBls (fun bs => bs.all _root_.id) [.lst (bs.map SD.bl)] μ Q := by
  unfold drBls
  simp only [lstD, blsOf_map]
  exact q
end
theorem subLen {α : Type} [DecidableEq α] : ∀ {u l : List α}, u.Nodup → (∀ k ∈ u, k ∈ l) → u.length ≤ l.length
  | [], _, _, _ => Nat.zero_le _
  | x :: r, l, nd, h => by
    have nd2 := List.nodup_cons.mp nd
    have hx := h x (List.mem_cons_self ..)
    have := subLen (u := r) (l := l.erase x) nd2.2 fun k hk => by
      have h1 := h k (List.mem_cons_of_mem _ hk)
      have : k ≠ x := fun e => nd2.1 (e ▸ hk)
      exact (List.mem_erase_of_ne this).mpr h1
    rw [List.length_erase_of_mem hx] at this
    have : 0 < l.length := List.length_pos_of_mem hx
    rw [List.length_cons]; omega
theorem dist_lt {α : Type} [DecidableEq α] : ∀ {l u : List α}, Dist l u → ¬ l.Nodup → u.length < l.length
  | [], _, _, h => (h List.nodup_nil).elim
  | x :: r, u, d, h => by
    by_cases hx : x ∈ r
    · have := subLen d.nd fun k hk => by
        rcases List.mem_cons.mp ((d.mem k).mp hk) with e | e
        · exact e ▸ hx
        · exact e
      rw [List.length_cons]; omega
    · have hr : ¬ r.Nodup := fun q => h (List.nodup_cons.mpr ⟨hx, q⟩)
      have hxu : x ∈ u := (d.mem x).mpr (List.mem_cons_self ..)
      have := dist_lt (l := r) (u := u.erase x) ⟨d.nd.erase x, fun k => by
        rw [d.nd.mem_erase_iff, d.mem k, List.mem_cons]
        constructor
        · rintro ⟨h1, h2 | h2⟩
          · exact (h1 h2).elim
          · exact h2
        · intro h2; exact ⟨fun e => hx (e ▸ h2), .inr h2⟩⟩ hr
      rw [List.length_erase_of_mem hxu] at this
      rw [List.length_cons]; omega
theorem dist_len {α : Type} [DecidableEq α] {l u : List α} (d : Dist l u) : decide ((u.length : Int) = (l.length : Int)) = decide l.Nodup := by
  by_cases h : l.Nodup
  · have h1 := subLen d.nd fun k hk => (d.mem k).mp hk
    have h2 := subLen h fun k hk => (d.mem k).mpr hk
    rw [decide_eq_true h, decide_eq_true (by omega)]
  · have := dist_lt d h
    rw [decide_eq_false h, decide_eq_false (by omega)]
def abcS : Str := "abcdefghijklmnopqrstuvwxyz"
def keyB : SD → Bool
  | .str x => decide (1 ≤ x.length) && decide (x.length ≤ 8) && x.cps.toList.all fun c => decide (c ∈ abcS.cps.toList)
  | _ => false
theorem keyB_eq (x : Str) : keyB (.str x) = (decide (1 ≤ x.length) && decide (x.length ≤ 8) && x.cps.toList.all fun c => decide (c ∈ abcS.cps.toList)) := rfl
def strD : SD → Str
  | .str x => x
  | _ => ""
theorem keyB_str {d : SD} (h : keyB d = true) : ∃ x, d = .str x := by
  cases d <;> first | exact ⟨_, rfl⟩ | cases h
def sp_is_key : DSp := fun ds μ Q _ => ∃ (d : SD) (m : Nat), ds = [d] ∧ okV m d ∧ wtV d ≤ 300000 ∧ Q (.bl (keyB d)) μ
theorem len_is_key : ∀ ds μ Q E, sp_is_key ds μ Q E → ds.length = 1 := by rintro ds μ Q E ⟨d, m, rfl, _⟩; rfl
theorem letters_ok {x : Str} {ρ : Rho} {μ : Mu} {Q : SD → Mu → Prop} (hx : x.length ≤ 300000) (h0 : ρ[0]? = some (some (.str x))) (hl : ρ.length = 2) (q : Q (.bl (x.cps.toList.all fun c => decide (c ∈ abcS.cps.toList))) μ) :
    dCB (drBls fun bs => bs.all _root_.id) (dCons (dLcS (jSeq (dVar 0)) (hName 1) dYes (dOp (dIn false) (dVar 1) (dC (.str "abcdefghijklmnopqrstuvwxyz"))) [1]) dNil) ρ μ Q := by
  unfold dLcS dLc
  refine r_var h0 ?_
  have cl : (chars x).length = x.cps.size := by simp [chars]
  have hx' : x.cps.size ≤ 300000 := hx
  refine lc_pure (zs := (x.cps.toList.map fun c => decide (c ∈ abcS.cps.toList)).map SD.bl) trivial (by rw [cl]; omega) (by simp [chars]) ?_ ?_
  · intro i d y hd hy R r
    unfold chars at hd
    rw [List.getElem?_map] at hd
    rw [List.getElem?_map, List.getElem?_map] at hy
    cases e : x.cps.toList[i]? with
    | none => rw [e] at hd; cases hd
    | some c =>
      rw [e] at hd hy; cases hd; cases hy
      have : ((wipeR ρ [1]).set 1 (some (SD.str ⟨#[c]⟩)))[1]? = some (some (SD.str ⟨#[c]⟩)) := by
        rw [List.getElem?_set_self]; simp [wipeR, hl]
      refine r_var this ?_
      exact in_sign r
  · refine bls_all ?_
    have : (x.cps.toList.map fun c => decide (c ∈ abcS.cps.toList)).all _root_.id = x.cps.toList.all fun c => decide (c ∈ abcS.cps.toList) := by
      rw [List.all_map]; rfl
    rw [this]; exact q
def t_is_key : DTS := (dSeq (dIfS (dOr (dNot (dTest (dCB drIsi (dCons (dVar 0) (dCons (dC (.ty "str")) dNil))))) (dNot (dTest (dChain dLe dLe (dC (.int 1)) (dCB drLen (dCons (dVar 0) dNil)) (dC (.int 8)))))) (dRet (dC (.bl false))) dNext)
    (dRet (dCB (drBls fun bs => bs.all _root_.id) (dCons (dLcS (jSeq (dVar 0)) (hName 1) dYes (dOp (dIn false) (dVar 1) (dC (.str "abcdefghijklmnopqrstuvwxyz"))) [1]) dNil))))
theorem read_is_key : ∀ ds μ Q E, sp_is_key ds μ Q E → t_is_key { nx := fun _ μ' => Q .non μ', rt := Q } (begin_ ["value", "letter"] ds) μ := by
  rintro ds μ Q E ⟨d, m, rfl, v, w, q⟩
  unfold t_is_key
  refine r_var rfl ?_
  refine isi_str v ?_
  cases d with
  | str x =>
    refine ifF rfl ?_
    rw [wtV] at w
    have xl : x.length ≤ 300000 := w
    refine r_var rfl ?_
    refine l_lenS (le_line xl (by omega)) ?_
    refine i_le ?_
    by_cases h1 : 1 ≤ x.length
    · rw [decide_eq_true (show (1 : Int) ≤ (x.length : Int) by omega)]
      refine i_le ?_
      by_cases h2 : x.length ≤ 8
      · rw [decide_eq_true (show (x.length : Int) ≤ 8 by omega)]
        refine ifF rfl ?_
        refine letters_ok (ρ := begin_ ["value", "letter"] [.str x]) xl rfl rfl ?_
        have : keyB (.str x) = x.cps.toList.all fun c => decide (c ∈ abcS.cps.toList) := by rw [keyB_eq, decide_eq_true h1, decide_eq_true h2]; rfl
        rw [← this]; exact q
      · rw [decide_eq_false (show ¬ (x.length : Int) ≤ 8 by omega)]
        refine ifT rfl ?_
        have : keyB (.str x) = false := by rw [keyB_eq, decide_eq_false h2, Bool.and_false, Bool.false_and]
        rw [← this]; exact q
    · rw [decide_eq_false (show ¬ (1 : Int) ≤ (x.length : Int) by omega)]
      refine ifT rfl ?_
      have : keyB (.str x) = false := by rw [keyB_eq, decide_eq_false h1, Bool.false_and, Bool.false_and]
      rw [← this]; exact q
  | ref a => rw [okV] at v; exact v.elim
  | ty a => rw [okV] at v; exact v.elim
  | rol a => rw [okV] at v; exact v.elim
  | exc a b => rw [okV] at v; exact v.elim
  | ptp a => rw [okV] at v; exact v.elim
  | _ => exact ifT rfl (ifT rfl q)
def allO {α β : Type} (f : α → Option (List β)) : List α → Option (List β)
  | [] => some []
  | c :: r => match f c, allO f r with
    | some a, some b => some (a ++ b)
    | _, _ => none
theorem allO_append {α β : Type} {f : α → Option (List β)} {b : List α} {y : List β} : ∀ {a : List α} {x : List β}, allO f a = some x → allO f b = some y → allO f (a ++ b) = some (x ++ y)
  | [], x, h, g => by cases h; exact g
  | c :: r, x, h, g => by
    rw [allO] at h
    split at h
    · rename_i p q e1 e2
      cases h
      rw [List.cons_append, allO, e1, allO_append e2 g]; simp
    · cases h
theorem allO_mem {α β : Type} {f : α → Option (List β)} : ∀ {a : List α} {x : List β}, allO f a = some x → ∀ c ∈ a, ∃ y, f c = some y
  | [], _, _, c, hc => by cases hc
  | d :: r, x, h, c, hc => by
    rw [allO] at h
    split at h
    · rename_i p q e1 e2
      rcases List.mem_cons.mp hc with rfl | hc
      · exact ⟨p, e1⟩
      · exact allO_mem e2 c hc
    · cases h
theorem allO_none {α β : Type} {f : α → Option (List β)} {a : List α} {c : α} (hc : c ∈ a) (h : f c = none) : allO f a = none := by
  cases e : allO f a with
  | none => rfl
  | some x => obtain ⟨y, hy⟩ := allO_mem e c hc; rw [h] at hy; cases hy
def kin : Nat → SD → Option (List Str)
  | 0, _ => none
  | n + 1, d => match d with
    | .tup [x, .tup cs] => if keyB x = true then (match allO (kin n) cs with
      | some l => some (strD x :: l)
      | none => none) else none
    | _ => none
theorem allO_wt {f : SD → Option (List Str)} (h : ∀ d l, f d = some l → l.length ≤ wtV d) : ∀ {cs : List SD} {l : List Str}, allO f cs = some l → l.length ≤ wtVL cs
  | [], l, e => by cases e; simp
  | c :: r, l, e => by
    rw [allO] at e
    split at e
    · rename_i p q e1 e2
      cases e
      have := h _ _ e1
      have := allO_wt h e2
      rw [wtVL, List.length_append]; omega
    · cases e
theorem kin_wt : ∀ (n : Nat) (d : SD) (l : List Str), kin n d = some l → l.length ≤ wtV d
  | 0, d, l, h => by cases h
  | n + 1, d, l, h => by
    unfold kin at h
    split at h
    · rename_i x cs
      split at h
      · split at h
        · rename_i l' e
          cases h
          have := allO_wt (kin_wt n) e
          rw [wtV, wtVL, wtVL, wtV, wtVL, List.length_cons]; omega
        · cases h
      · cases h
    · cases h
def kwR (lv : Nat) (d : SD) : SD := match kin lv d with
  | some l => .lst (sts l)
  | none => .non
def sp_keys_within (n : Nat) : DSp := fun ds μ Q _ => ∃ (d : SD) (m lv : Nat), ds = [d, .int lv] ∧ lv < n ∧ okV m d ∧ wtV d ≤ 300000 ∧ ∀ μ', Le μ μ' → Q (kwR lv d) μ'
theorem no_keys_within {ds μ Q E} (h : sp_keys_within 0 ds μ Q E) : False := by
  obtain ⟨d, m, lv, rfl, h, _⟩ := h; omega
theorem len_keys_within {n} : ∀ ds μ Q E, sp_keys_within n ds μ Q E → ds.length = 2 := by rintro ds μ Q E ⟨d, m, lv, rfl, _⟩; rfl
def t_keys_within (n : Nat) : DTS := (dSeq (dIfS (dOr (dTest (dOp (dEq false) (dVar 1) (dC (.int 0)))) (dOr (dNot (dTest (dCB drIsi (dCons (dVar 0) (dCons (dC (.ty "tuple")) dNil))))) (dTest (dOp (dEq true) (dCB drLen (dCons (dVar 0) dNil)) (dC (.int 2)))))) (dRet (dC .non)) dNext)
    (dSeq (dIfS (dOr (dNot (dTest (dCall sp_is_key [] (dCons (dOp dIx (dVar 0) (dC (.int 0))) dNil)))) (dNot (dTest (dCB drIsi (dCons (dOp dIx (dVar 0) (dC (.int 1))) (dCons (dC (.ty "tuple")) dNil)))))) (dRet (dC .non)) dNext)
    (dSeq (dSet (dLstM (dCons (dOp dIx (dVar 0) (dC (.int 0))) dNil)) 2)
    (dSeq (dFor (jSeq (dOp dIx (dVar 0) (dC (.int 1)))) (hName 3) (dSeq (dSet (dCall (sp_keys_within n) [] (dCons (dVar 3) (dCons (dOp dSub (dVar 1) (dC (.int 1))) dNil))) 4)
    (dSeq (dIfS (dTest (dIsN (dVar 4))) (dRet (dC .non)) dNext)
    (dDrop (dLM dmExtend (dVar 2) (dCons (dVar 4) dNil))))))
    (dRetF (dVar 2))))))
theorem read_keys_within (n : Nat) : ∀ ds μ Q E, sp_keys_within (n + 1) ds μ Q E → t_keys_within n { nx := fun _ μ' => Q .non μ', rt := Q } (begin_ ["value", "levels", "found", "child", "some"] ds) μ := by
  rintro ds μ Q E ⟨d, m, lv, rfl, hlv, v, w, q⟩
  unfold t_keys_within dFor
  refine r_var rfl ?_
  refine i_eq ?_
  cases lv with
  | zero => exact ifT rfl (ifT rfl (q μ (Le.refl μ)))
  | succ l0 =>
    rw [decide_eq_false (show ¬ ((l0 + 1 : Nat) : Int) = 0 by omega)]
    refine ifF rfl ?_
    refine r_var rfl ?_
    refine isi_tup v ?_
    cases d with
    | ref a => rw [okV] at v; exact v.elim
    | ty a => rw [okV] at v; exact v.elim
    | rol a => rw [okV] at v; exact v.elim
    | exc a b => rw [okV] at v; exact v.elim
    | ptp a => rw [okV] at v; exact v.elim
    | tup xs =>
      refine ifF rfl ?_
      refine r_var rfl ?_
      refine l_lenT ?_
      refine i_ne ?_
      by_cases h2 : xs.length = 2
      · rw [decide_eq_true (show (xs.length : Int) = 2 by omega)]
        refine ifF rfl ?_
        simp only [dNext]
        obtain ⟨x, y, rfl⟩ : ∃ x y, xs = [x, y] := by
          match xs, h2 with
          | [x, y], _ => exact ⟨x, y, rfl⟩
        rw [okV, okVL, okVL] at v
        obtain ⟨vx, vy, _⟩ := v
        rw [wtV, wtVL, wtVL, wtVL] at w
        refine r_var rfl ?_
        refine ix_tup (d := x) rfl ?_
        refine ⟨x, m, rfl, vx, by omega, ?_⟩
        cases hk : keyB x with
        | false =>
          refine ifT rfl (ifT rfl ?_)
          have e : kwR (l0 + 1) (.tup [x, y]) = .non := by
            unfold kwR kin
            cases y <;> simp [hk]
          have := q μ (Le.refl μ)
          rw [e] at this; exact this
        | true =>
          refine ifF rfl ?_
          refine r_var rfl ?_
          refine ix_tup (d := y) rfl ?_
          refine isi_tup vy ?_
          obtain ⟨s, rfl⟩ := keyB_str hk
          cases y with
          | ref a => rw [okV] at vy; exact vy.elim
          | ty a => rw [okV] at vy; exact vy.elim
          | rol a => rw [okV] at vy; exact vy.elim
          | exc a b => rw [okV] at vy; exact vy.elim
          | ptp a => rw [okV] at vy; exact vy.elim
          | tup cs =>
            refine ifF rfl ?_
            simp only [dNext]
            rw [okV] at vy
            rw [wtV, wtV] at w
            refine r_var rfl ?_
            refine ix_tup (d := .str s) rfl ?_
            refine ⟨(by show 1 ≤ sizeLine; decide), fun p hp => ?_⟩
            dsimp only
            refine r_var rfl ?_
            refine ix_tup (d := .tup cs) rfl ?_
            have ke : kin (l0 + 1) (.tup [.str s, .tup cs]) = (match allO (kin l0) cs with
              | some l => some (s :: l)
              | none => none) := by unfold kin; simp [hk, strD]
            refine ⟨fun i ρ μ' => ∃ (a b : Option SD) (l : List Str), ρ = [some (.tup [.str s, .tup cs]), some (.int ((l0 + 1 : Nat) : Int)), some (.ref p), a, b] ∧ Le μ μ' ∧ μ' p = some (.lst (sts (s :: l))) ∧ allO (kin l0) (cs.take i) = some l, ?_, fun _ _ _ _ _ => rfl, ?_, ?_⟩
            · exact ⟨none, none, [], rfl, (Le.refl μ).up hp, by rw [up_same]; rfl, rfl⟩
            · rintro i c ρ μ' hc ⟨a, b, l, rfl, le, hp', hl⟩
              have hcm := List.mem_of_getElem? hc
              have vc := okVL_mem.mp vy c hcm
              have wc := wtVL_mem hcm
              dsimp only
              refine r_var rfl ?_
              refine r_var rfl ?_
              refine i_sub ?_
              rw [show ((l0 + 1 : Nat) : Int) - 1 = ((l0 : Nat) : Int) by omega]
              refine ⟨c, m, l0, rfl, by omega, vc, by omega, fun μ2 le2 => ?_⟩
              dsimp only
              refine r_var rfl ?_
              cases e : kin l0 c with
              | none =>
                have e2 : kwR l0 c = .non := by unfold kwR; rw [e]
                rw [e2]
                refine ifT rfl ?_
                have e3 : kwR (l0 + 1) (.tup [.str s, .tup cs]) = .non := by unfold kwR; rw [ke, allO_none hcm e]
                have := q μ2 (le.trans le2)
                rw [e3] at this; exact this
              | some lc =>
                have e2 : kwR l0 c = .lst (sts lc) := by unfold kwR; rw [e]
                rw [e2]
                refine ifF rfl ?_
                simp only [dNext]
                have hp2 := le2 _ _ hp'
                refine r_var rfl ⟨isSome_ref hp2, ?_⟩
                refine r_var rfl ?_
                have tk : allO (kin l0) (cs.take (i + 1)) = some (l ++ lc) := by
                  rw [List.take_succ, hc]
                  refine allO_append hl ?_
                  show allO (kin l0) [c] = some lc
                  rw [allO, e, allO]; simp
                have b1 := allO_wt (kin_wt l0) tk
                have b2 : wtVL (cs.take (i + 1)) ≤ wtVL cs := by have := wtVL_cut cs (i + 1); omega
                rw [List.length_append] at b1
                refine dm_extendL hp2 (le_line (m := 300002) (by simp [sts]; omega) (by omega)) ?_
                refine ⟨_, _, l ++ lc, rfl, (le.trans le2).up hp, by rw [up_same]; simp [sts], tk⟩
            · rintro ρ μ' ⟨a, b, l, rfl, le, hp', hl⟩
              dsimp only
              refine r_var rfl ?_
              unfold frz
              simp only [hp']
              rw [List.take_length] at hl
              have e3 : kwR (l0 + 1) (.tup [.str s, .tup cs]) = .lst (sts (s :: l)) := by unfold kwR; rw [ke, hl]
              have := q _ (le.rm hp)
              rw [e3] at this; exact this
          | _ =>
            refine ifT rfl ?_
            have := q μ (Le.refl μ)
            unfold kwR kin at this
            exact this
      · rw [decide_eq_false (show ¬ (xs.length : Int) = 2 by omega)]
        refine ifT rfl ?_
        have e : kwR (l0 + 1) (.tup xs) = .non := by
          unfold kwR kin
          match xs, h2 with
          | [], _ => rfl
          | [_], _ => rfl
          | [_, _], h => exact (h rfl).elim
          | _ :: b :: _ :: _, _ => cases b <;> rfl
        have := q μ (Le.refl μ)
        rw [e] at this; exact this
    | _ => exact ifT rfl (ifT rfl (q μ (Le.refl μ)))
def treeB (d : SD) : Bool := match kin 20 d with
  | some l => decide (l.length ≤ 60) && decide l.Nodup
  | none => false
def sp_is_tree : DSp := fun ds μ Q _ => ∃ (d : SD) (m : Nat), ds = [d] ∧ okV m d ∧ wtV d ≤ 300000 ∧ ∀ μ', Le μ μ' → Q (.bl (treeB d)) μ'
theorem len_is_tree : ∀ ds μ Q E, sp_is_tree ds μ Q E → ds.length = 1 := by rintro ds μ Q E ⟨d, m, rfl, _⟩; rfl
def t_is_tree : DTS := (dSeq (dSet (dCall (sp_keys_within 24) [] (dCons (dVar 0) (dCons (dC (.int 20)) dNil))) 1)
    (dRet (dAndV (dNotN (dVar 1)) (dAndV (dOp dLe (dCB drLen (dCons (dVar 1) dNil)) (dC (.int 60))) (dOp (dEq false) (dLenSet (dVar 1)) (dCB drLen (dCons (dVar 1) dNil)))))))
theorem lenSet_L {μ : Mu} {Q : SD → Mu → Prop} {l : List Str} (hl : l.length ≤ 4000) (q : ∀ u, Dist l u → Q (.int (u.length : Nat)) μ) : drLenSet (.lst (sts l)) μ Q := by
  unfold drLenSet sts
  simp only [lstD, strsOf_map]
  exact ⟨hl, q⟩
theorem read_is_tree : ∀ ds μ Q E, sp_is_tree ds μ Q E → t_is_tree { nx := fun _ μ' => Q .non μ', rt := Q } (begin_ ["value", "found"] ds) μ := by
  rintro ds μ Q E ⟨d, m, rfl, v, w, q⟩
  unfold t_is_tree
  refine r_var rfl ?_
  refine ⟨d, m, 20, rfl, by decide, v, w, fun μ1 le => ?_⟩
  have q1 := q μ1 le
  unfold treeB at q1
  unfold kwR
  dsimp only
  refine r_var rfl ?_
  cases e : kin 20 d with
  | none => rw [e] at q1; exact q1
  | some l =>
    rw [e] at q1
    dsimp only at q1
    dsimp only [DS.isNon]
    refine r_var rfl ?_
    refine l_len ?_
    refine i_le ?_
    have sl : (sts l).length = l.length := by simp [sts]
    rw [sl]
    by_cases h : l.length ≤ 60
    · rw [decide_eq_true (show (l.length : Int) ≤ 60 by omega)]
      refine r_var rfl ?_
      refine lenSet_L (by omega) fun u hu => ?_
      refine r_var rfl ?_
      refine l_len ?_
      refine i_eq ?_
      rw [sl, dist_len hu]
      rw [decide_eq_true h, Bool.true_and] at q1
      exact q1
    · rw [decide_eq_false (show ¬ (l.length : Int) ≤ 60 by omega)]
      rw [decide_eq_false h, Bool.false_and] at q1
      exact q1
end LK
namespace LK
open PySem PySem.Spec PyProof.Rows L2 DS MA
section
variable {ρ : Rho} {μ : Mu} {i : Nat} {a : Addr} {x f m : Str} {fs : List (Str × SD)} {d v y : SD} {Q : SD → Mu → Prop} {R : Mu → Prop}
theorem putA_ok (h : μ a = some (.obj x fs)) (l : fs.length < 900) (q : R (up μ a (.obj x (putS f y fs)))) : sQ x f y R (.ref a) μ := by
  unfold sQ; simp only [h]; exact ⟨trivial, l, q⟩
theorem attr_ok (h : μ a = some (.obj x fs)) (e : fs.lookup f = some v) (q : Q v μ) : aQ x f Q (.ref a) μ := by
  unfold aQ; simp only [h, e]; exact ⟨trivial, q⟩
theorem meth_ok (h : μ a = some (.obj x fs)) (e : fs.lookup m = none) (q : Q (.ref a) μ) : mQ x m Q (.ref a) μ := by
  unfold mQ; simp only [h, e]; exact ⟨trivial, trivial, q⟩
theorem eq_ss {u w : Str} {neg : Bool} (q : Q (.bl (neg != decide (u = w))) μ) : dEq neg (.str u) (.str w) μ Q := by
  have : eqD μ (.str u) (.str w) = some (decide (u = w)) := by simp [eqD]
  unfold dEq; rw [this]; exact q
theorem up_up {m m' : MO} : up (up μ a m) a m' = up μ a m' := by funext b; unfold up; split <;> rfl
end
end LK
namespace LK
open PySem PySem.Spec PyProof.Rows L2 DS MA
def pr (l : List (Str × Int)) (k : Str) : Int := ((l.find? fun p => decide (p.1 = k)).map (·.2)).getD 1
end LK
namespace LK
open PySem PySem.Spec PyProof.Rows L2 DS MA
section
variable {μ : Mu} {Q : SD → Mu → Prop} {a : Addr} {xs : List SD} {neg : Bool} {ρ : Rho} {g : DTG} {te : DTE} {vs : List Nat}
theorem lc_g {ds zs : List SD} {ok : Mu → Prop} {R : List SD → Mu → Prop} (hok : ok μ) (hl : ds.length ≤ 1000000) (hy : zs.length = ds.length) (el : ∀ (i : Nat) (d y : SD), ds[i]? = some d → zs[i]? = some y → ∀ R : SD → Mu → Prop, R y μ → g d (wipeR ρ vs) μ fun ρ2 μ2 => te ρ2 μ2 R) (q : R zs μ) :
    ds.length ≤ sizeLine ∧ ∃ W : Nat → List SD → Mu → Prop, W 0 [] μ ∧ (∀ i acc μ', i ≤ ds.length → W i acc μ' → ok μ') ∧ (∀ i d acc μ', ds[i]? = some d → W i acc μ' → g d (wipeR ρ vs) μ' fun ρ2 μ2 => dYes ρ2 μ2 fun b μ3 => if b = true then te ρ2 μ3 fun y μ4 => W (i+1) (acc ++ [y]) μ4 else W (i+1) acc μ3) ∧ ∀ acc μ', W ds.length acc μ' → R acc μ' := by
  refine ⟨le_line hl (Nat.le_refl _), fun i acc μ' => acc = zs.take i ∧ μ' = μ, ⟨rfl, rfl⟩, ?_, ?_, ?_⟩
  · rintro i acc μ' _ ⟨_, rfl⟩; exact hok
  · rintro i d acc μ' hd ⟨rfl, rfl⟩
    have hi := (List.getElem?_eq_some_iff.mp hd).1
    have hz : zs[i]? = some zs[i] := List.getElem?_eq_getElem (by omega)
    have e : ∀ K : SD → Mu → Prop, ∀ L : Mu → Prop, (fun (ρ2 : Rho) (μ2 : Mu) => dYes ρ2 μ2 fun b μ3 => if b = true then te ρ2 μ3 K else L μ3) = fun ρ2 μ2 => te ρ2 μ2 K := fun K L => by
      funext ρ2 μ2; exact if_pos rfl
    rw [e]
    refine el i d _ hd hz _ ⟨?_, rfl⟩
    rw [List.take_succ, hz]; rfl
  · rintro acc μ' ⟨rfl, rfl⟩
    rw [List.take_of_length_le (by omega)]; exact q
end
def ltT (a b : Str) : Bool := decide (a.cps.toList < b.cps.toList)
def ascB (l : List Str) : Bool := (List.zipWith ltT l (l.drop 1)).all _root_.id
def costV : SD → Bool
  | .int i => decide (1 ≤ i) && decide (i ≤ 1000)
  | _ => false
def costB : SD → Bool
  | .tup [x, y] => keyB x && costV y
  | _ => false
def nmD : SD → Str
  | .tup (.str x :: _) => x
  | _ => ""
theorem costB_at {d : SD} (h : costB d = true) : ∃ x i, d = .tup [.str x, .int i] ∧ keyB (.str x) = true := by
  unfold costB at h
  split at h
  · rename_i x y
    rw [Bool.and_eq_true] at h
    obtain ⟨s, rfl⟩ := keyB_str h.1
    obtain ⟨i, rfl⟩ : ∃ i, y = .int i := by
      have := h.2
      unfold costV at this
      split at this
      · exact ⟨_, rfl⟩
      · cases this
    exact ⟨s, i, rfl, h.1⟩
  · cases h
def costsB : SD → Bool
  | .tup xs => xs.all costB && ascB (xs.map nmD)
  | _ => false
theorem kit_bool : kitB "NoneType" "bool" = some false ∧ kitB "bool" "bool" = some true ∧ kitB "int" "bool" = some false := by decide +kernel
def sp_is_cost : DSp := fun ds μ Q _ => ∃ (d : SD) (m : Nat), ds = [d] ∧ okV m d ∧ wtV d ≤ 300000 ∧ Q (.bl (costB d)) μ
theorem len_is_cost : ∀ ds μ Q E, sp_is_cost ds μ Q E → ds.length = 1 := by rintro ds μ Q E ⟨d, m, rfl, _⟩; rfl
def t_is_cost : DTS := (dSeq (dIfS (dOr (dNot (dTest (dCB drIsi (dCons (dVar 0) (dCons (dC (.ty "tuple")) dNil))))) (dOr (dTest (dOp (dEq true) (dCB drLen (dCons (dVar 0) dNil)) (dC (.int 2)))) (dNot (dTest (dCall sp_is_key [] (dCons (dOp dIx (dVar 0) (dC (.int 0))) dNil)))))) (dRet (dC (.bl false))) dNext)
    (dRet (dAndV (dCB drIsi (dCons (dOp dIx (dVar 0) (dC (.int 1))) (dCons (dC (.ty "int")) dNil))) (dAndV (dNotV (dCB drIsi (dCons (dOp dIx (dVar 0) (dC (.int 1))) (dCons (dC (.ty "bool")) dNil)))) (dChain dLe dLe (dC (.int 1)) (dOp dIx (dVar 0) (dC (.int 1))) (dC (.int 1000)))))))
theorem read_is_cost : ∀ ds μ Q E, sp_is_cost ds μ Q E → t_is_cost { nx := fun _ μ' => Q .non μ', rt := Q } (begin_ ["value"] ds) μ := by
  rintro ds μ Q E ⟨d, m, rfl, v, w, q⟩
  unfold t_is_cost
  refine r_var rfl ?_
  refine isi_tup v ?_
  cases d with
  | ref a => rw [okV] at v; exact v.elim
  | ty a => rw [okV] at v; exact v.elim
  | rol a => rw [okV] at v; exact v.elim
  | exc a b => rw [okV] at v; exact v.elim
  | ptp a => rw [okV] at v; exact v.elim
  | tup xs =>
    refine ifF rfl ?_
    refine r_var rfl ?_
    refine l_lenT ?_
    refine i_ne ?_
    match xs, v, w, q with
    | [], _, _, q => exact ifT rfl (ifT rfl q)
    | [x], _, _, q => exact ifT rfl (ifT rfl q)
    | x :: y :: z :: r, _, _, q =>
      rw [decide_eq_false (show ¬ (((x :: y :: z :: r).length : Nat) : Int) = 2 by simp only [List.length_cons]; omega)]
      exact ifT rfl (ifT rfl q)
    | [x, y], v, w, q =>
      rw [okV, okVL, okVL] at v
      obtain ⟨vx, vy, _⟩ := v
      rw [wtV, wtVL, wtVL, wtVL] at w
      refine ifF rfl ?_
      refine r_var rfl ?_
      refine ix_tup (d := x) rfl ?_
      refine ⟨x, m, rfl, vx, by omega, ?_⟩
      have e : costB (.tup [x, y]) = (keyB x && costV y) := rfl
      rw [e] at q
      cases hk : keyB x with
      | false => rw [hk] at q; exact ifT rfl q
      | true =>
        rw [hk, Bool.true_and] at q
        refine ifF rfl ?_
        simp only [dNext]
        refine r_var rfl ?_
        refine ix_tup (d := y) rfl ?_
        refine isi_int vy ?_
        cases y with
        | int i =>
          refine r_var rfl ?_
          refine ix_tup (d := .int i) rfl ?_
          refine isi_of (t := "int") (b := false) rfl kit_bool.2.2 ?_
          refine r_var rfl ?_
          refine ix_tup (d := .int i) rfl ?_
          refine i_le ?_
          have e2 : costV (.int i) = (decide (1 ≤ i) && decide (i ≤ 1000)) := rfl
          rw [e2] at q
          by_cases h1 : 1 ≤ i
          · rw [decide_eq_true h1] at q ⊢
            exact i_le q
          · rw [decide_eq_false h1] at q ⊢
            exact q
        | bl b =>
          refine r_var rfl ?_
          refine ix_tup (d := .bl b) rfl ?_
          exact isi_of (t := "bool") (b := true) rfl kit_bool.2.1 q
        | _ => exact q
  | _ => exact ifT rfl (ifT rfl q)
theorem zips_names : ∀ {xs : List SD} (ys : List SD), (zips xs ys).map (fun d => match d with | .tup [a, b] => ltT (nmD a) (nmD b) | _ => false) = List.zipWith ltT (xs.map nmD) (ys.map nmD) := fun {xs} ys => by
  unfold zips
  rw [List.map_zipWith, List.zipWith_map]
def sp_are_costs : DSp := fun ds μ Q _ => ∃ (d : SD) (m : Nat), ds = [d] ∧ okV m d ∧ wtV d ≤ 300000 ∧ Q (.bl (costsB d)) μ
theorem len_are_costs : ∀ ds μ Q E, sp_are_costs ds μ Q E → ds.length = 1 := by rintro ds μ Q E ⟨d, m, rfl, _⟩; rfl
def t_are_costs : DTS := (dSeq (dIfS (dOr (dNot (dTest (dCB drIsi (dCons (dVar 0) (dCons (dC (.ty "tuple")) dNil))))) (dNot (dTest (dCB (drBls fun bs => bs.all _root_.id) (dCons (dLcS (jSeq (dVar 0)) (hName 1) dYes (dCall sp_is_cost [] (dCons (dVar 1) dNil)) [1]) dNil))))) (dRet (dC (.bl false))) dNext)
    (dRet (dCB (drBls fun bs => bs.all _root_.id) (dCons (dLcS (jZip (dCons (dVar 0) (dCons (dSl (dVar 0) (dPart (dC (.int 1))) dNoPart) dNil))) (hTup 2 (hNames [1, 2])) dYes (dOp dLt (dOp dIx (dVar 1) (dC (.int 0))) (dOp dIx (dVar 2) (dC (.int 0)))) [1, 2]) dNil))))
theorem read_are_costs : ∀ ds μ Q E, sp_are_costs ds μ Q E → t_are_costs { nx := fun _ μ' => Q .non μ', rt := Q } (begin_ ["value", "pair", "later"] ds) μ := by
  rintro ds μ Q E ⟨d, m, rfl, v, w, q⟩
  unfold t_are_costs
  refine r_var rfl ?_
  refine isi_tup v ?_
  cases d with
  | ref a => rw [okV] at v; exact v.elim
  | ty a => rw [okV] at v; exact v.elim
  | rol a => rw [okV] at v; exact v.elim
  | exc a b => rw [okV] at v; exact v.elim
  | ptp a => rw [okV] at v; exact v.elim
  | tup xs =>
    refine ifF rfl ?_
    rw [okV] at v
    rw [wtV] at w
    have ok := okVL_mem.mp v
    have xl : xs.length ≤ 300000 := Nat.le_trans (len_wtVL xs) w
    unfold dLcS dLc
    refine r_var rfl ?_
    refine lc_g (zs := (xs.map costB).map SD.bl) rfl (by omega) (by simp) (fun i d y hd hy R rr => ?_) ?_
    · rw [List.getElem?_map, List.getElem?_map, hd] at hy
      cases hy
      refine r_var rfl ?_
      have hm := List.mem_of_getElem? hd
      exact ⟨d, m, rfl, ok d hm, by have := wtVL_mem hm; omega, rr⟩
    · refine bls_all ?_
      have e : costsB (.tup xs) = (xs.all costB && ascB (xs.map nmD)) := rfl
      rw [e] at q
      have e2 : (xs.map costB).all _root_.id = xs.all costB := by rw [List.all_map]; rfl
      rw [e2]
      cases hall : xs.all costB with
      | false => rw [hall] at q; exact ifT rfl q
      | true =>
        rw [hall, Bool.true_and] at q
        have all := List.all_eq_true.mp hall
        refine ifF rfl ?_
        simp only [dNext]
        unfold jZip
        refine r_var rfl ?_
        refine r_var rfl ?_
        refine sl_T ?_
        rw [show cutL xs (some 1) none = xs.drop 1 from cutL_from xs 1]
        refine ⟨rfl, ?_⟩
        dsimp only
        simp only [seqD]
        have zl : (zips xs (xs.drop 1)).length ≤ 300000 := by unfold zips; rw [List.length_zipWith]; omega
        refine lc_g (ok := fun _ => True ∧ True) (zs := ((zips xs (xs.drop 1)).map fun d => match d with | .tup [a, b] => ltT (nmD a) (nmD b) | _ => false).map SD.bl) ⟨trivial, trivial⟩ (by omega) (by simp) (fun i d y hd hy R rr => ?_) ?_
        · rw [List.getElem?_map, List.getElem?_map, hd] at hy
          unfold zips at hd
          rw [List.getElem?_zipWith] at hd
          cases ea : xs[i]? with
          | none => rw [ea] at hd; cases hd
          | some a =>
          cases eb : (xs.drop 1)[i]? with
          | none => rw [ea, eb] at hd; cases hd
          | some b =>
          rw [ea, eb] at hd
          cases hd
          cases hy
          obtain ⟨x, j, rfl, _⟩ := costB_at (all a (List.mem_of_getElem? ea))
          obtain ⟨x2, j2, rfl, _⟩ := costB_at (all b (List.mem_of_mem_drop (List.mem_of_getElem? eb)))
          refine ⟨rfl, rfl, ?_⟩
          refine r_var rfl ?_
          refine ix_tup (d := .str x) (atI_nat (j := 0) rfl) ?_
          refine r_var rfl ?_
          refine ix_tup (d := .str x2) (atI_nat (j := 0) rfl) ?_
          exact rr
        · refine bls_all ?_
          rw [zips_names, List.map_drop]
          exact q
  | _ => exact ifT rfl (ifT rfl q)
end LK
namespace LK
open PySem PySem.Spec PyProof.Rows L2 DS MA
/-- is it an operation? -/
def opB : SD → Bool
  | .tup (.str w :: xs) => if w = "remove" then (match xs with
      | [x] => keyB x
      | _ => false)
    else if w = "create" ∨ w = "move" then (match xs with
      | [x, h, b] => keyB x && (keyB h && (isNon b || keyB b))
      | _ => false)
    else false
  | _ => false
end LK
namespace LK
open PySem PySem.Spec PyProof.Rows L2 DS MA
theorem jSeq_at {te : DTE} {ρ : Rho} {μ : Mu} {x : SD} {xs : List SD} {R : List SD → (Mu → Prop) → Mu → Prop} (h : ∀ R' : SD → Mu → Prop, R' x μ → te ρ μ R') (hs : ∀ z, x ≠ .str z) (hx : seqD μ x = some xs) (q : R xs (fun μ' => seqD μ' x = some xs) μ) : jSeq te ρ μ R := by
  refine h _ ?_
  cases x with
  | str z => exact (hs z rfl).elim
  | _ => simp only [hx]; exact q
theorem lc_bools {ρ : Rho} {μ : Mu} {te el : DTE} {x : SD} {xs : List Str} {i : Nat} {P : Str → Bool} {Q : SD → Mu → Prop} (h : ∀ R' : SD → Mu → Prop, R' x μ → te ρ μ R') (hs : ∀ z, x ≠ .str z) (hx : ∀ μ', Le μ μ' → seqD μ' x = some (sts xs)) (hl : xs.length ≤ 1000)
    (hel : ∀ μ', Le μ μ' → ∀ k ∈ xs, ∀ R : SD → Mu → Prop, (∀ μ'', Le μ' μ'' → R (.bl (P k)) μ'') → el ((wipeR ρ [i]).set i (some (.str k))) μ' R) (q : ∀ μ', Le μ μ' → Q (.lst ((xs.map P).map SD.bl)) μ') :
    dLcS (jSeq te) (hName i) dYes el [i] ρ μ Q := by
  unfold dLcS dLc
  refine jSeq_at h hs (hx μ (Le.refl μ)) ?_
  refine ⟨le_line (m := 1000) (by simp [sts]; exact hl) (by omega), fun n acc μ' => acc = ((xs.take n).map P).map SD.bl ∧ Le μ μ', ⟨rfl, Le.refl _⟩, fun n acc μ' _ hw => hx μ' hw.2, ?_, ?_⟩
  · rintro n d acc μ' hd ⟨rfl, l⟩
    rw [sts, List.getElem?_map] at hd
    cases e : xs[n]? with
    | none => rw [e] at hd; cases hd
    | some k =>
      rw [e] at hd; cases hd
      refine ifT rfl ?_
      refine hel μ' l k (List.mem_of_getElem? e) _ fun μ'' l2 => ⟨?_, l.trans l2⟩
      rw [List.take_succ, e]; simp
  · rintro acc μ' ⟨rfl, l⟩
    rw [show (sts xs).length = xs.length by simp [sts], List.take_length]; exact q μ' l
end LK
namespace LK
open PySem PySem.Spec PyProof.Rows L2 DS MA
theorem mem_join {y : Str} {c : Nat} : ∀ {l : List Str} {p : Str}, p ∈ l → c ∈ p.cps.toList → c ∈ (Str.join y l).cps.toList
  | [a], p, hp, hc => by rw [List.mem_singleton.mp hp] at hc; exact hc
  | a :: b :: r, p, hp, hc => by
    have e : (Str.join y (a :: b :: r)).cps.toList = (a.cps.toList ++ y.cps.toList) ++ (Str.join y (b :: r)).cps.toList := by
      show ((a ++ y) ++ Str.join y (b :: r)).cps.toList = _
      show (((a.cps ++ y.cps) ++ (Str.join y (b :: r)).cps)).toList = _
      simp
    rw [e]
    rcases List.mem_cons.mp hp with rfl | hp
    · exact List.mem_append_left _ (List.mem_append_left _ hc)
    · exact List.mem_append_right _ (mem_join hp hc)
theorem strOk_iff {x : Str} : PyData.strOk x = true ↔ ∀ c ∈ x.cps.toList, PyData.strOk ⟨#[c]⟩ = true := by
  unfold PyData.strOk
  rw [← Array.all_toList, List.all_eq_true]
  constructor
  · intro h c hc
    have := h c hc
    simpa using this
  · intro h c hc
    have := h c hc
    simpa using this
theorem part_ok {x y : Str} (h : PyData.strOk x = true) {p : Str} (hp : p ∈ Txt.split x y) : PyData.strOk p = true := by
  rw [strOk_iff] at h ⊢
  intro c hc
  refine h c ?_
  rw [← StrLaws.join_split x y]
  exact mem_join hp hc
theorem part_len {x y : Str} (hy : 1 ≤ y.length) {p : Str} (hp : p ∈ Txt.split x y) : p.length ≤ x.length := by
  have w := split_weight x y hy
  obtain ⟨s, t, e⟩ := List.append_of_mem hp
  rw [e, List.map_append, List.sum_append, List.map_cons, List.sum_cons, List.length_append, List.length_cons] at w
  omega
theorem parts_n {x y : Str} (hy : 1 ≤ y.length) : (Txt.split x y).length ≤ x.length + 1 := by
  have := split_weight x y hy; omega
theorem blank_len : ((" " : Str).length == 0) = false := by decide +kernel
theorem feed_len : (("\n" : Str).length == 0) = false := by decide +kernel
theorem feed1 : 1 ≤ ("\n" : Str).length := by decide +kernel
end LK
namespace LK
open PySem PySem.Spec PyProof.Rows L2 DS MA
abbrev wds (l : Str) : List Str := Txt.split l " "
/-- the operation, its last dash taken for nothing -/
def opD (ws : List Str) : SD := if ws.length = 4 ∧ ws[3]? = some ("-" : Str) then .tup ((sts ws).set 3 .non) else .tup (sts ws)
def sp_operation_in : DSp := fun _ _ _ _ => False
def lnsO (t : Str) : List Str := if t = "" then [] else Txt.split t "\n"
def goodL (i : Nat) (l : Str) : Prop := opB (opD (wds l)) = true ∧ i < 400
/-- what both looks promise -/
structure Looks (t : Str) (bad : Nat → Prop) (all : SD → Prop) : Prop where
  b : ∀ (j : Nat) (l : Str), (lnsO t)[j]? = some l → ¬ goodL j l → (∀ (i : Nat) (l' : Str), i < j → (lnsO t)[i]? = some l' → goodL i l') → bad j
  a : (∀ (i : Nat) (l : Str), (lnsO t)[i]? = some l → goodL i l) → all (.tup ((lnsO t).map fun l => opD (wds l)))
theorem for_seq61 {wi : DTI} {g : DTG} {tb rest : DTS} {D : DEnds} {ρ : Rho} {μ : Mu} (k : wi ρ μ fun ds ok μ1 => ∃ W : Nat → Rho → Mu → Prop, W 0 ρ μ1 ∧ (∀ i ρ μ, i ≤ ds.length → W i ρ μ → ok μ) ∧ (∀ i d ρ μ, ds[i]? = some d → W i ρ μ → g d ρ μ fun ρ2 μ2 => tb { D with nx := W (i + 1), ct := W (i + 1), bk := rest D } ρ2 μ2) ∧ ∀ ρ μ, W ds.length ρ μ → rest D ρ μ) : dSeq (dFor wi g tb) rest D ρ μ := k
def sp_read_operations : DSpX := fun ds μ _ E => ∃ (d : SD) (m : Nat), ds = [d] ∧ okV m d ∧ isStr d = false ∧ E "BadText" [("line", .int 0)] μ
theorem len_read_operations : ∀ ds μ Q E, sp_read_operations ds μ Q E → ds.length = 1 := by rintro ds μ Q E ⟨d, m, rfl, _⟩; rfl
def t_read_operations (Ex : DXX) : DTS := (dSeq (dIfS (dNot (dTest (dCB drIsi (dCons (dVar 0) (dCons (dC (.ty "str")) dNil))))) (dRaise "BadText" "line" Ex (dC (.int 0))) dNext)
    (dSeq (dSet (dLstM dNil) 1)
    (dSeq (dFor (jEnum (dCons (dIf (dTest (dOp (dEq true) (dVar 0) (dC (.str "")))) (dText1 drSplit (dVar 0) (dC (.str "\n"))) (dLst dNil)) dNil)) (hTup 2 (hCons (hName 2) (hCons (hName 3) hNil))) (dSeq (dSet (dCall sp_operation_in [] (dCons (dVar 3) dNil)) 4)
    (dSeq (dIfS (dOr (dTest (dIsN (dVar 4))) (dTest (dOp (dEq false) (dVar 2) (dC (.int 400))))) (dRaise "BadText" "line" Ex (dVar 2)) dNext)
    (dDrop (dLM dmAppend (dVar 1) (dCons (dVar 4) dNil))))))
    (dRet (dCB drTuple (dCons (dVar 1) dNil))))))
theorem read_read_operations : ∀ ds μ Q E, sp_read_operations ds μ Q E → t_read_operations E { nx := fun _ μ' => Q .non μ', rt := Q } (begin_ ["text", "found", "index", "line", "operation"] ds) μ := by
  rintro ds μ Q E ⟨d, m, rfl, v, hs, q⟩
  unfold t_read_operations
  refine r_var rfl ?_
  refine isi_str v ?_
  rw [hs]
  exact ifT rfl q
end LK
namespace LK
end LK
namespace LK
end LK
namespace LK
open PySem PySem.Spec PyProof.Rows L2 DS MA
def KL (k : Str) : Prop := KeyOk k ∧ LowK k
end LK
namespace LK
open PySem PySem.Spec PyProof.Rows L2 DS MA
theorem KL.nd {k : Str} (h : KL k) : k ≠ ("-" : Str) := fun e => by
  have := h.2.2.2 45 (by rw [e]; decide +kernel)
  omega
theorem asc_ok {x : Str} (h : ∀ c ∈ x.cps.toList, c < 128) : PyData.strOk x = true := by
  unfold PyData.strOk
  rw [← Array.all_toList, List.all_eq_true]
  intro c hc
  have := h c hc
  simp; omega
theorem join_L61 {a : Str} {l : List Str} {μ : Mu} {Q : SD → Mu → Prop} (h : (l.map (·.length)).sum + l.length * a.length ≤ 16777216) (q : Q (.str (Txt.join a l)) μ) : drJoin (.str a) (.lst (sts l)) μ Q := by
  unfold drJoin
  simp only [seqD, show strsOf (sts l) = some l from strsOf_map l]
  exact ⟨h, q⟩
end LK
namespace LK
end LK
namespace LK
open PySem PySem.Spec PyProof.Rows L2 DS MA
def xnames : List Str := ["NoElement", "DifferentRoots", "NotKept", "Conflict", "BadTree", "BadCosts", "Root", "NotFocused", "Lost", "NothingToUndo", "BadText", "BadLine"]
def sp__law_heard : DTH → Mu → (SD → Mu → Prop) → Prop := fun th μ Q => ∀ (Q1 : SD → Mu → Prop) (E1 : DXX), (∀ d μ1, Q (.tup [.str "returned", d]) μ1 → Q1 d μ1) → (∀ (d : SD) (μ1 : Mu), Q (.tup [.str "line", d]) μ1 → E1 "BadText" [("line", d)] μ1) → th μ Q1 E1
def t__law_heard (f : Addr) (th : DTH) : DTS := (dSeq (dAsg (dTup (dCons (dC .non) (dCons (dC .non) dNil))) (hTup 2 (hCons (hName 1) (hCons (hName 2) hNil))))
    (dSeq (dTryA f th (kX xnames "KeyedError") 1 3 2)
    (dSeq (dIfS (dTest (dIsN (dVar 2))) (dRet (dTup (dCons (dC (.str "returned")) (dCons (dVar 1) dNil)))) dNext)
    (dSeq (dIfS (dAnd (dTest (dIsX (kX xnames "BadText") (dVar 2))) (dAnd (dNot (dTest (dIsXT [kX xnames "BadLine", kX xnames "BadTree"] (dVar 2)))) (dTest (dIsX (kX xnames "ValueError") (dVar 2))))) (dRet (dTup (dCons (dC (.str "line")) (dCons (dFld "line" (dVar 2)) dNil)))) dNext)
    (dRet (dTup (dCons (dC (.str "other")) (dCons (dC .non) dNil))))))))
theorem isX_61 {ρ : Rho} {μ : Mu} {i : Nat} {c x : Str} {fs : List (Str × SD)} {b : Bool} {Q : SD → Mu → Prop} (h : ρ[i]? = some (some (.exc x fs))) (k : kX xnames c x = some b) (q : Q (.bl b) μ) : dIsX (kX xnames c) (dVar i) ρ μ Q := by
  refine r_var h ?_
  unfold DS.isQ
  simp only [k]
  exact q
theorem heard_line {f : Addr} {d : SD} {μ1 : Mu} {Q : SD → Mu → Prop} (q : Q (.tup [.str "line", d]) μ1) :
    (dSeq (dIfS (dTest (dIsN (dVar 2))) (dRet (dTup (dCons (dC (.str "returned")) (dCons (dVar 1) dNil)))) dNext)
    (dSeq (dIfS (dAnd (dTest (dIsX (kX xnames "BadText") (dVar 2))) (dAnd (dNot (dTest (dIsXT [kX xnames "BadLine", kX xnames "BadTree"] (dVar 2)))) (dTest (dIsX (kX xnames "ValueError") (dVar 2))))) (dRet (dTup (dCons (dC (.str "line")) (dCons (dFld "line" (dVar 2)) dNil)))) dNext)
    (dRet (dTup (dCons (dC (.str "other")) (dCons (dC .non) dNil)))))) { nx := fun _ μ' => Q .non μ', rt := Q } [some (.ref f), some .non, some (.exc "BadText" [("line", d)]), none] μ1 := by
  refine r_var rfl ?_
  refine ifF rfl ?_
  simp only [dNext]
  refine isX_61 (x := "BadText") (b := true) rfl (by decide +kernel) ?_
  refine ifT rfl ?_
  refine r_var rfl ?_
  unfold DS.isQT
  simp only [show anyX [kX xnames "BadLine", kX xnames "BadTree"] "BadText" = some false by decide +kernel]
  refine ifT rfl ?_
  refine isX_61 (x := "BadText") (b := true) rfl (by decide +kernel) ?_
  refine ifT rfl ?_
  refine r_var rfl ?_
  simp only [show ([(("line" : Str), d)] : List (Str × SD)).lookup "line" = some d from rfl]
  exact ⟨(by show 2 ≤ sizeLine; decide), q⟩
theorem read__law_heard : ∀ f th μ Q, sp__law_heard th μ Q → t__law_heard f th { nx := fun _ μ' => Q .non μ', rt := Q } (begin_ ["_law_call", "_law_told", "_law_caught", "error"] [.ref f]) μ := by
  intro f th μ Q h
  unfold t__law_heard
  refine ⟨(by show 2 ≤ sizeLine; decide), ?_⟩
  refine ⟨rfl, ?_⟩
  refine ⟨rfl, ?_⟩
  refine ⟨⟨rfl, (by show 3 < 4; decide)⟩, ?_⟩
  refine h _ _ (fun d μ1 q => ?_) fun d μ1 q => ?_
  · dsimp only [List.set_cons_zero, List.set_cons_succ]
    refine r_var (i := 2) rfl ?_
    refine ifT rfl ?_
    refine r_var (i := 1) rfl ?_
    exact ⟨(by show 2 ≤ sizeLine; decide), q⟩
  · exact ⟨by decide +kernel, heard_line (f := f) (d := d) (Q := Q) q⟩
end LK
namespace LK
open PySem PySem.Spec PyProof.Rows L2 DS MA
def asc (p : Str) : Prop := ∀ c ∈ p.cps.toList, c < 128
def wtS (l : List Str) : Nat := (l.map (·.length)).sum + l.length
theorem wtS_append (a b : List Str) : wtS (a ++ b) = wtS a + wtS b := by
  unfold wtS
  rw [List.map_append, List.sum_append, List.length_append]; omega
theorem wtS_cons (a : Str) (b : List Str) : wtS (a :: b) = a.length + 1 + wtS b := by
  unfold wtS
  rw [List.map_cons, List.sum_cons, List.length_cons]; omega
theorem wtS_nil : wtS [] = 0 := rfl
/-- lines or words of a text -/
structure Bag (l : List Str) (M : Nat) : Prop where
  w : wtS l ≤ M
  a : ∀ p ∈ l, asc p
theorem Bag.mono {l : List Str} {M N : Nat} (B : Bag l M) (h : M ≤ N) : Bag l N := ⟨Nat.le_trans B.w h, B.a⟩
theorem Bag.append {a b : List Str} {M N : Nat} (A : Bag a M) (B : Bag b N) : Bag (a ++ b) (M + N) := ⟨by rw [wtS_append]; exact Nat.add_le_add A.w B.w, fun p hp => (List.mem_append.mp hp).elim (A.a p) (B.a p)⟩
theorem Bag.one {p : Str} (h : asc p) : Bag [p] (p.length + 1) := ⟨by rw [wtS_cons, wtS_nil]; exact Nat.le_refl _, fun q hq => by rw [List.mem_singleton.mp hq]; exact h⟩
theorem wtS_cut (l : List Str) (k : Nat) : wtS (l.take k) + wtS (l.drop k) = wtS l := by rw [← wtS_append, List.take_append_drop]
theorem Bag.take {l : List Str} {M : Nat} (B : Bag l M) (k : Nat) : Bag (l.take k) M := ⟨by have := B.w; have := wtS_cut l k; omega, fun p hp => B.a p (List.mem_of_mem_take hp)⟩
theorem Bag.drop {l : List Str} {M : Nat} (B : Bag l M) (k : Nat) : Bag (l.drop k) M := ⟨by have := B.w; have := wtS_cut l k; omega, fun p hp => B.a p (List.mem_of_mem_drop hp)⟩
theorem wtS_set : ∀ (l : List Str) (j : Nat) (p : Str), wtS (l.set j p) ≤ wtS l + p.length
  | [], _, _ => Nat.zero_le _
  | a :: r, 0, p => by
    rw [List.set_cons_zero, wtS_cons, wtS_cons]; omega
  | a :: r, j + 1, p => by
    have := wtS_set r j p
    rw [List.set_cons_succ, wtS_cons, wtS_cons]; omega
theorem Bag.set {l : List Str} {M : Nat} (B : Bag l M) (j : Nat) {p : Str} (h : asc p) : Bag (l.set j p) (M + p.length) := ⟨by have := B.w; have := wtS_set l j p; omega, fun q hq => (List.mem_or_eq_of_mem_set hq).elim (B.a q) fun e => e ▸ h⟩
theorem Bag.mem {l : List Str} {M : Nat} (B : Bag l M) {p : Str} (h : p ∈ l) : asc p ∧ p.length + 1 ≤ M := by
  refine ⟨B.a p h, ?_⟩
  obtain ⟨s, t, e⟩ := List.append_of_mem h
  have := B.w
  rw [e, wtS_append, wtS_cons] at this; omega
theorem Bag.n {l : List Str} {M : Nat} (B : Bag l M) : l.length ≤ M := by
  have := B.w
  unfold wtS at this; omega
end LK
namespace LK
open PySem PySem.Spec PyProof.Rows L2 DS MA
theorem min61 {μ : Mu} {Q : SD → Mu → Prop} {m n : Int} (q : Q (.int (if n < m then n else m)) μ) : drI2 (fun i j => if j < i then j else i) [.int m, .int n] μ Q := q
end LK
namespace LK
open PySem PySem.Spec PyProof.Rows L2 DS MA PySem.Builtin PySem.Builtin.Str
def keyT (w : Str) : Bool := keyB (.str w)
theorem keyT_sgn {w : Str} (h : keyT w = true) : 1 ≤ w.length ∧ w.length ≤ 8 ∧ ∀ c ∈ cpl w, c ∈ cpl abcS := by
  unfold keyT at h
  rw [keyB_eq, Bool.and_eq_true, Bool.and_eq_true] at h
  obtain ⟨⟨a, b⟩, c⟩ := h
  exact ⟨of_decide_eq_true a, of_decide_eq_true b, fun x hx => of_decide_eq_true (List.all_eq_true.mp c x hx)⟩
theorem abc_le : ∀ c ∈ cpl abcS, c ≠ 32 ∧ c ≠ 10 ∧ c < 128 := by decide +kernel
theorem keyT_ne {w : Str} (h : keyT w = true) {c : Nat} (hc : c ∈ cpl w) : c ≠ 32 := (abc_le c ((keyT_sgn h).2.2 c hc)).1
theorem cpl_len (x : Str) : (cpl x).length = x.length := by simp [cpl, Str.length]
theorem cpl_sp : cpl " " = [32] := by decide +kernel
theorem cpl_blanks (n : Nat) : cpl (repS " " n) = List.replicate n 32 := by
  rw [cpl_rep, cpl_sp]
  induction n with
  | zero => rfl
  | succ n ih => rw [List.replicate_succ, List.flatten_cons, ih]; rfl
theorem drop_takeWhile {p : Nat → Bool} : ∀ l : List Nat, l.drop (l.takeWhile p).length = l.dropWhile p
  | [] => rfl
  | a :: r => by
    rw [List.takeWhile_cons, List.dropWhile_cons]
    by_cases h : p a = true
    · rw [if_pos h, if_pos h]; exact drop_takeWhile r
    · rw [if_neg h, if_neg h]; rfl
theorem lst_cpl (x : Str) : cpl (Txt.lstripChars x " ") = (cpl x).dropWhile fun c => c == 32 := by
  have e : Txt.lstripChars x " " = Builtin.Str.strSub x (stripLo (" " : Str).cps.contains true x) x.length := by
    unfold Txt.lstripChars
    rw [stripBy_eq]; rfl
  have g : (" " : Str).cps.contains = fun c => c == 32 := by
    funext c
    have : (" " : Str).cps = #[32] := by decide +kernel
    rw [this]; simp [Array.contains, BEq.beq]
  rw [e, cpl, StrLaws.strSub_toList]
  have l : stripLo (" " : Str).cps.contains true x = ((cpl x).takeWhile fun c => c == 32).length := by
    rw [g]; rfl
  rw [l, show x.cps.toList = cpl x from rfl, drop_takeWhile]
  refine List.take_of_length_le ?_
  rw [← drop_takeWhile, List.length_drop, cpl_len]
  exact Nat.le_refl _
/-- what a line writes -/
def splitT (l : Str) : Option (Nat × Str) := if (l.length - (Txt.lstripChars l " ").length) % 2 = 0 ∧ keyT (Txt.lstripChars l " ") = true then some ((l.length - (Txt.lstripChars l " ").length) / 2, Txt.lstripChars l " ") else none
theorem takeWhile_rep : ∀ l : List Nat, l.takeWhile (fun c => c == 32) = List.replicate (l.takeWhile fun c => c == 32).length 32
  | [] => rfl
  | c :: r => by
    rw [List.takeWhile_cons]
    by_cases h : c = 32
    · subst h
      rw [if_pos (by simp), List.length_cons, List.replicate_succ, ← takeWhile_rep r]
    · rw [if_neg (by simp [h])]; rfl
theorem dropWhile_rep {k : List Nat} (h : k.head? ≠ some 32) (n : Nat) : (List.replicate n 32 ++ k).dropWhile (fun c => c == 32) = k := by
  induction n with
  | zero =>
    rw [List.replicate_zero, List.nil_append]
    cases k with
    | nil => rfl
    | cons a r => rw [List.dropWhile_cons, if_neg (by simpa using h)]
  | succ n ih => rw [List.replicate_succ, List.cons_append, List.dropWhile_cons, if_pos (by simp)]; exact ih
theorem blanks_lst {k : Str} (h : keyT k = true) (n : Nat) : Txt.lstripChars (repS " " n ++ k) " " = k := by
  apply cpl_inj
  rw [lst_cpl, cpl_app, cpl_blanks]
  refine dropWhile_rep ?_ n
  intro z
  cases e : cpl k with
  | nil => rw [e] at z; cases z
  | cons a r =>
    rw [e] at z
    have : a = 32 := by simpa using z
    exact keyT_ne h (c := a) (by rw [e]; exact List.mem_cons_self ..) this
theorem blanks_len (k : Str) (n : Nat) : (repS " " n ++ k).length - k.length = n := by
  rw [← cpl_len, ← cpl_len, cpl_app, cpl_blanks, List.length_append, List.length_replicate]; omega
/-- each line with a key at its end is blanks and the key -/
theorem lst_parts {l : Str} : ∃ n, l = repS " " n ++ Txt.lstripChars l " " := by
  refine ⟨((cpl l).takeWhile fun c => c == 32).length, ?_⟩
  apply cpl_inj
  rw [cpl_app, cpl_blanks, lst_cpl, ← takeWhile_rep, List.takeWhile_append_dropWhile]
theorem splitT_some {l : Str} {d : Nat} {k : Str} (h : splitT l = some (d, k)) : l = repS " " (2 * d) ++ k ∧ keyT k = true := by
  unfold splitT at h
  split at h
  · rename_i hc
    obtain ⟨n, e⟩ := lst_parts (l := l)
    cases h
    obtain ⟨a, b⟩ := hc
    refine ⟨?_, b⟩
    generalize hk : Txt.lstripChars l " " = k at *
    have h2 : l.length - k.length = n := by rw [e]; exact blanks_len k n
    rw [h2] at a ⊢
    rw [show 2 * (n / 2) = n by omega]
    exact e
  · cases h
theorem splitT_mk {k : Str} (h : keyT k = true) (d : Nat) : splitT (repS " " (2 * d) ++ k) = some (d, k) := by
  unfold splitT
  rw [blanks_lst h, blanks_len, if_pos ⟨by omega, h⟩, show 2 * d / 2 = d by omega]
structure RS where
  ks : List Str
  f : Str → List Str
  lev : Str → Nat
  way : List Str
def RS.nil : RS := ⟨[], fun _ => [], fun _ => 1, []⟩
def RS.home (s : RS) (d : Nat) : Str := s.way.getD (d - 1) ""
def canR (s : RS) (d : Nat) (k : Str) : Bool := !decide (k ∈ s.ks) && (!decide (s.ks.length = 60) && (decide (d < 20) && if s.way.isEmpty then decide (d = 0) else (decide (1 ≤ d) && decide (d ≤ s.way.length))))
def RS.add (s : RS) (d : Nat) (k : Str) : RS := if d = 0 then ⟨s.ks ++ [k], s.f, s.lev, [k]⟩ else ⟨s.ks ++ [k], putIn s.f (s.home d) k (s.f (s.home d)).length, levIn s.lev (s.home d) k, s.way.take d ++ [k]⟩
structure RSOk (s : RS) : Prop where
  nd : s.ks.Nodup
  len : s.ks.length ≤ 60
  key : ∀ k ∈ s.ks, keyT k = true
  G : s.ks ≠ [] → Grow s.ks 20 s.ks.length s.f s.lev
  e : s.ks = [] → s = RS.nil
  ne : s.ks ≠ [] → s.way ≠ [] ∧ s.way[0]? = s.ks[0]?
  way : ∀ i k, s.way[i]? = some k → k ∈ s.ks ∧ s.lev k = i + 1
theorem RSOk.nil : RSOk RS.nil := ⟨List.nodup_nil, Nat.zero_le _, fun k h => (by cases h), fun h => (h rfl).elim, fun _ => rfl, fun h => (h rfl).elim, fun i k h => (by cases h)⟩
theorem canR_iff {s : RS} {d : Nat} {k : Str} : canR s d k = true ↔ k ∉ s.ks ∧ s.ks.length ≠ 60 ∧ d < 20 ∧ (if s.way = [] then d = 0 else 1 ≤ d ∧ d ≤ s.way.length) := by
  unfold canR
  rw [Bool.and_eq_true, Bool.and_eq_true, Bool.and_eq_true]
  have : (if s.way.isEmpty = true then decide (d = 0) else (decide (1 ≤ d) && decide (d ≤ s.way.length))) = true ↔ (if s.way = [] then d = 0 else 1 ≤ d ∧ d ≤ s.way.length) := by
    by_cases h : s.way = []
    · rw [h]; simp
    · have h2 : ¬ s.way.isEmpty = true := by simpa using h
      rw [if_neg h2, if_neg h, Bool.and_eq_true, decide_eq_true_iff, decide_eq_true_iff]
  rw [this]
  simp
theorem Grow.more {ks : List Str} {deep : Nat} {f : Str → List Str} {lev : Str → Nat} {x : Str} (h0 : ks ≠ []) (G : Grow ks deep ks.length f lev) : Grow (ks ++ [x]) deep ks.length f lev := by
  obtain ⟨a, b, c, d⟩ := G
  have t : (ks ++ [x]).take ks.length = ks := List.take_left' rfl
  rw [List.take_length] at b c d
  refine ⟨fun k hk => a k ?_, ?_, ?_, ?_⟩
  · rw [List.getElem?_append_left (by have := List.length_pos_iff.mpr h0; omega)] at hk; exact hk
  · rw [t]; exact b
  · rw [t]; exact c
  · rw [t]; exact d
theorem RS.home_mem {s : RS} {d : Nat} (o : RSOk s) (h1 : 1 ≤ d) (h2 : d ≤ s.way.length) : s.way[d - 1]? = some (s.home d) ∧ s.home d ∈ s.ks ∧ s.lev (s.home d) = d := by
  have e : s.way[d - 1]? = some (s.home d) := by
    unfold RS.home
    rw [List.getD_eq_getElem?_getD, List.getElem?_eq_getElem (by omega)]; rfl
  obtain ⟨a, b⟩ := o.way _ _ e
  exact ⟨e, a, by omega⟩
theorem RSOk.add {s : RS} {d : Nat} {k : Str} (o : RSOk s) (c : canR s d k = true) (hk : keyT k = true) : RSOk (s.add d k) := by
  obtain ⟨c1, c2, c3, c4⟩ := canR_iff.mp c
  have nd2 : (s.ks ++ [k]).Nodup := by
    rw [List.nodup_append]
    exact ⟨o.nd, by simp, fun a ha b hb => by rw [List.mem_singleton.mp hb]; exact fun z => c1 (z ▸ ha)⟩
  have len2 : (s.ks ++ [k]).length ≤ 60 := by
    have := o.len
    rw [List.length_append]; simp; omega
  have key2 : ∀ x ∈ s.ks ++ [k], keyT x = true := fun x hx => by
    rcases List.mem_append.mp hx with hx | hx
    · exact o.key x hx
    · rw [List.mem_singleton.mp hx]; exact hk
  have ne2 : s.ks ++ [k] ≠ [] := by simp
  unfold RS.add
  by_cases h0 : d = 0
  · rw [if_pos h0]
    have w0 : s.way = [] := Classical.byContradiction fun z => by rw [if_neg z] at c4; omega
    have k0 : s.ks = [] := Classical.byContradiction fun z => (o.ne z).1 w0
    rw [o.e k0]
    refine ⟨by simp [RS.nil], by simp [RS.nil], fun x hx => ?_, fun _ => Grow.init rfl (by decide), fun z => by simp [RS.nil] at z, fun _ => ⟨by simp, rfl⟩, fun i x hx => ?_⟩
    · have : x = k := by simpa [RS.nil] using hx
      rw [this]; exact hk
    · cases i with
      | zero =>
        have : x = k := by simpa using hx.symm
        subst this
        exact ⟨by simp [RS.nil], rfl⟩
      | succ i => simp at hx
  · rw [if_neg h0]
    have w0 : s.way ≠ [] := fun z => by rw [if_pos z] at c4; exact h0 c4
    rw [if_neg w0] at c4
    have k0 : s.ks ≠ [] := fun z => w0 (by rw [o.e z]; rfl)
    obtain ⟨e1, e2, e3⟩ := RS.home_mem o c4.1 c4.2
    have G := (o.G k0).more (x := k) k0
    have xk : (s.ks ++ [k])[s.ks.length]? = some k := by rw [List.getElem?_append_right (Nat.le_refl _)]; simp
    have S := G.step (home := s.home d) (j := (s.f (s.home d)).length) nd2 (List.length_pos_iff.mpr k0) xk (by rw [List.take_left' rfl]; exact e2) (by rw [e3]; exact c3)
    refine ⟨nd2, len2, key2, fun _ => ?_, fun z => (ne2 z).elim, fun _ => ⟨by simp, ?_⟩, fun i x hx => ?_⟩
    · rw [List.length_append]; exact S
    · show (s.way.take d ++ [k])[0]? = (s.ks ++ [k])[0]?
      rw [List.getElem?_append_left (by rw [List.length_take]; have := List.length_pos_iff.mpr w0; omega), List.getElem?_take, if_pos (by omega), (o.ne k0).2, List.getElem?_append_left (List.length_pos_iff.mpr k0)]
    · show x ∈ s.ks ++ [k] ∧ levIn s.lev (s.home d) k x = i + 1
      change (s.way.take d ++ [k])[i]? = some x at hx
      have tl : (s.way.take d).length = d := by rw [List.length_take]; omega
      by_cases hi : i < d
      · rw [List.getElem?_append_left (by omega), List.getElem?_take, if_pos hi] at hx
        obtain ⟨a, b⟩ := o.way i x hx
        refine ⟨List.mem_append_left _ a, ?_⟩
        unfold levIn
        rw [if_neg (show ¬ x = k from fun z => c1 (by rw [← z]; exact a))]; exact b
      · rw [List.getElem?_append_right (by omega), tl] at hx
        have hi2 : i - d = 0 := by
          have := (List.getElem?_eq_some_iff.mp hx).1
          simp at this; omega
        rw [hi2] at hx
        have : x = k := by simpa using hx.symm
        subst this
        refine ⟨by simp, ?_⟩
        unfold levIn
        rw [if_pos rfl, e3]; omega
end LK
namespace LK
open PySem PySem.Spec PyProof.Rows L2 DS MA
inductive RR where
  | bad (j : Nat)
  | ok (s : RS)
def rd : RS → Nat → List Str → RR
  | s, _, [] => .ok s
  | s, i, l :: r => match splitT l with
    | none => .bad i
    | some (d, k) => if canR s d k = true then rd (s.add d k) (i + 1) r else .bad i
theorem rd_none {s : RS} {i : Nat} {l : Str} {r : List Str} (h : splitT l = none) : rd s i (l :: r) = .bad i := by rw [rd, h]
theorem rd_no {s : RS} {i d : Nat} {k l : Str} {r : List Str} (h : splitT l = some (d, k)) (c : canR s d k = false) : rd s i (l :: r) = .bad i := by rw [rd, h]; simp [c]
theorem rd_yes {s : RS} {i d : Nat} {k l : Str} {r : List Str} (h : splitT l = some (d, k)) (c : canR s d k = true) : rd s i (l :: r) = rd (s.add d k) (i + 1) r := by rw [rd, h]; simp [c]
theorem add_ks {s : RS} {d : Nat} {k : Str} : (s.add d k).ks = s.ks ++ [k] := by unfold RS.add; split <;> rfl
theorem rd_okS : ∀ (ls : List Str) (s s' : RS) (i : Nat), RSOk s → rd s i ls = .ok s' → RSOk s' ∧ s'.ks.length = s.ks.length + ls.length
  | [], s, s', i, o, h => by rw [rd] at h; cases h; exact ⟨o, rfl⟩
  | l :: r, s, s', i, o, h => by
    cases e : splitT l with
    | none => rw [rd_none e] at h; cases h
    | some p =>
      obtain ⟨d, k⟩ := p
      by_cases c : canR s d k = true
      · rw [rd_yes e c] at h
        obtain ⟨a, b⟩ := rd_okS r _ s' _ (o.add c (splitT_some e).2) h
        rw [add_ks, List.length_append] at b
        refine ⟨a, ?_⟩
        simp at b ⊢; omega
      · rw [rd_no e (by simpa using c)] at h; cases h
def RS.root (s : RS) : Str := s.way.getD 0 ""
def RS.tree (s : RS) : T := build s.f 19 s.root
theorem RSOk.plant {s : RS} (o : RSOk s) (h : s.ks ≠ []) : Plant s.ks s.root s.f (parOf s.ks s.f) s.lev s.tree := by
  obtain ⟨a, b⟩ := o.ne h
  have e : s.way[0]? = some s.root := by
    unfold RS.root
    rw [List.getD_eq_getElem?_getD, List.getElem?_eq_getElem (List.length_pos_iff.mpr a)]; rfl
  exact plant_of (deep := 20) (o.G h) (by rw [← b]; exact e) o.nd (by have := o.len; omega) (by decide) (by decide)
/-- what both looks promise -/
def outR (r : RR) (bad : Nat → Prop) (good : SD → Prop) : Prop := match r with
  | .bad j => bad j
  | .ok s => good (enc s.tree)
mutual
theorem fits_same {f g : Str → List Str} : ∀ t : T, (∀ x ∈ pre t, f x = g x) → Fits f t → Fits g t
  | .node k cs, h, a => by
    rw [pre] at h
    rw [Fits] at a ⊢
    refine ⟨by rw [← h k (List.mem_cons_self ..)]; exact a.1, fitsL_same cs (fun x hx => h x (List.mem_cons_of_mem _ hx)) a.2⟩
theorem fitsL_same {f g : Str → List Str} : ∀ ts : List T, (∀ x ∈ preL ts, f x = g x) → FitsL f ts → FitsL g ts
  | [], _, _ => trivial
  | t :: r, h, a => by
    rw [preL] at h
    rw [FitsL] at a ⊢
    exact ⟨fits_same t (fun x hx => h x (List.mem_append_left _ hx)) a.1, fitsL_same r (fun x hx => h x (List.mem_append_right _ hx)) a.2⟩
end
theorem build_fits {f : Str → List Str} : ∀ (n : Nat) (t : T), Fits f t → dep t ≤ n + 1 → build f n t.key = t
  | 0, .node k cs, h, hd => by
    rw [dep] at hd
    cases cs with
    | nil => rfl
    | cons c r =>
      rw [depL] at hd
      have : 1 ≤ dep c := by cases c; rw [dep]; omega
      omega
  | n + 1, .node k cs, h, hd => by
    rw [Fits] at h
    rw [dep] at hd
    show T.node k ((f k).map (build f n)) = _
    rw [h.1, List.map_map]
    have : cs.map (build f n ∘ T.key) = cs := by
      conv => rhs; rw [← List.map_id cs]
      refine List.map_congr_left fun c hc => ?_
      have := depL_mem hc
      exact build_fits n c (FitsL_mem.mp h.2 c hc) (by omega)
    rw [this]
theorem home_take {s s' : RS} {d : Nat} (h1 : 1 ≤ d) (h : s'.way.take d = s.way.take d) : s'.home d = s.home d := by
  unfold RS.home
  have e := congrArg (fun l : List Str => l[d - 1]?) h
  simp only [List.getElem?_take] at e
  rw [if_pos (by omega), if_pos (by omega)] at e
  rw [List.getD_eq_getElem?_getD, List.getD_eq_getElem?_getD, e]
/-- what reading a part leaves -/
structure RdS (s s' : RS) (d : Nat) (nk hs : List Str) : Prop where
  k : s'.ks = s.ks ++ nk
  w : s'.way.take d = s.way.take d
  wl : d ≤ s'.way.length
  h : s'.f (s.home d) = s.f (s.home d) ++ hs
  o : ∀ x, x ∉ nk → x ≠ s.home d → s'.f x = s.f x
mutual
theorem rd_T : ∀ (t : T) (d i : Nat) (s : RS) (rest : List Str), 1 ≤ d → d ≤ s.way.length → s.home d ∈ s.ks → (pre t).Nodup → (∀ k ∈ pre t, k ∉ s.ks ∧ keyT k = true) → s.ks.length + (pre t).length ≤ 60 → d + dep t ≤ 20 →
    ∃ s', rd s i (linesT d t ++ rest) = rd s' (i + (pre t).length) rest ∧ RdS s s' d (pre t) [t.key] ∧ Fits s'.f t
  | .node k cs, d, i, s, rest, h1, hd, hm, nd, hk, hl, hp => by
    rw [pre] at nd hk hl ⊢
    rw [List.length_cons] at hl
    rw [dep] at hp
    rw [linesT, rep_two, List.cons_append]
    obtain ⟨kn, kk⟩ := hk k (List.mem_cons_self ..)
    have nd2 := List.nodup_cons.mp nd
    have w0 : s.way ≠ [] := fun z => by rw [z] at hd; simp at hd; omega
    have c : canR s d k = true := canR_iff.mpr ⟨kn, by omega, by omega, by rw [if_neg w0]; exact ⟨h1, hd⟩⟩
    have hpk : s.home d ≠ k := fun z => kn (z ▸ hm)
    have ea : s.add d k = ⟨s.ks ++ [k], putIn s.f (s.home d) k (s.f (s.home d)).length, levIn s.lev (s.home d) k, s.way.take d ++ [k]⟩ := by
      unfold RS.add; rw [if_neg (by omega)]
    have tl : (s.way.take d).length = d := by rw [List.length_take]; omega
    rw [rd_yes (splitT_mk kk d) c]
    have hom : (s.add d k).home (d + 1) = k := by
      rw [ea]
      show (s.way.take d ++ [k]).getD (d + 1 - 1) "" = k
      rw [show d + 1 - 1 = d by omega, List.getD_eq_getElem?_getD, List.getElem?_append_right (by omega), tl]
      simp
    have f1k : (s.add d k).f k = [] := by
      rw [ea]; show putIn _ _ _ _ k = []; unfold putIn; rw [if_pos rfl]
    have f1p : (s.add d k).f (s.home d) = s.f (s.home d) ++ [k] := by
      rw [ea]; show putIn _ _ _ _ _ = _; unfold putIn
      rw [if_neg hpk, if_pos rfl, List.take_length, List.drop_length, List.append_nil]
    have f1o : ∀ x, x ≠ k → x ≠ s.home d → (s.add d k).f x = s.f x := fun x a b => by
      rw [ea]; show putIn _ _ _ _ _ = _; unfold putIn
      rw [if_neg a, if_neg b]
    have ks1 : (s.add d k).ks = s.ks ++ [k] := add_ks
    have w1 : (s.add d k).way = s.way.take d ++ [k] := by rw [ea]
    obtain ⟨s2, e2, R, F⟩ := rd_L cs (d + 1) (i + 1) (s.add d k) rest (by omega) (by rw [w1, List.length_append, tl]; simp) (by rw [hom, ks1]; simp) nd2.2
      (fun x hx => ⟨fun z => by
        rw [ks1] at z
        rcases List.mem_append.mp z with z | z
        · exact (hk x (List.mem_cons_of_mem _ hx)).1 z
        · exact nd2.1 (by rw [← List.mem_singleton.mp z]; exact hx), (hk x (List.mem_cons_of_mem _ hx)).2⟩)
      (by rw [ks1, List.length_append]; simp; omega) (by omega)
    obtain ⟨r1, r2, r3, r4, r5⟩ := R
    rw [hom] at r4 r5
    have pn : s.home d ∉ preL cs := fun z => (hk _ (List.mem_cons_of_mem _ z)).1 hm
    refine ⟨s2, by rw [e2, List.length_cons]; congr 1; omega, ⟨by rw [r1, ks1]; simp, ?_, by omega, ?_, fun x hx hxp => ?_⟩, ?_⟩
    · have := congrArg (fun l : List Str => l.take d) r2
      simp only [List.take_take] at this
      rw [show min d (d + 1) = d by omega, w1, List.take_append_of_le_length (by omega), List.take_take, show min d d = d by omega] at this
      exact this
    · rw [r5 _ pn hpk, f1p]; rfl
    · rw [r5 x (fun z => hx (List.mem_cons_of_mem _ z)) (fun z => hx (by rw [z]; exact List.mem_cons_self ..)), f1o x (fun z => hx (by rw [z]; exact List.mem_cons_self ..)) hxp]
    · rw [Fits]
      refine ⟨by rw [r4, f1k, List.nil_append], F⟩
theorem rd_L : ∀ (ts : List T) (d i : Nat) (s : RS) (rest : List Str), 1 ≤ d → d ≤ s.way.length → s.home d ∈ s.ks → (preL ts).Nodup → (∀ k ∈ preL ts, k ∉ s.ks ∧ keyT k = true) → s.ks.length + (preL ts).length ≤ 60 → d + depL ts ≤ 20 →
    ∃ s', rd s i (linesL d ts ++ rest) = rd s' (i + (preL ts).length) rest ∧ RdS s s' d (preL ts) (ts.map T.key) ∧ FitsL s'.f ts
  | [], d, i, s, rest, h1, hd, hm, nd, hk, hl, hp => by
    rw [linesL, preL]
    exact ⟨s, rfl, ⟨by simp, rfl, hd, by simp, fun x _ _ => rfl⟩, trivial⟩
  | t :: r, d, i, s, rest, h1, hd, hm, nd, hk, hl, hp => by
    rw [preL] at nd hk hl ⊢
    rw [List.length_append] at hl
    rw [depL] at hp
    rw [linesL, List.append_assoc]
    obtain ⟨n1, n2, n3⟩ := List.nodup_append.mp nd
    obtain ⟨s1, e1, ⟨a1, a2, a3, a4, a5⟩, F1⟩ := rd_T t d i s (linesL d r ++ rest) h1 hd hm n1 (fun x hx => hk x (List.mem_append_left _ hx)) (by omega) (by omega)
    have hom := home_take h1 a2
    obtain ⟨s2, e2, ⟨b1, b2, b3, b4, b5⟩, F2⟩ := rd_L r d (i + (pre t).length) s1 rest h1 a3 (by rw [hom, a1]; exact List.mem_append_left _ hm) n2
      (fun x hx => ⟨fun z => by
        rw [a1] at z
        rcases List.mem_append.mp z with z | z
        · exact (hk x (List.mem_append_right _ hx)).1 z
        · exact n3 x z x hx rfl, (hk x (List.mem_append_right _ hx)).2⟩)
      (by rw [a1, List.length_append]; omega) (by omega)
    rw [hom] at b4 b5
    refine ⟨s2, by rw [e1, e2, List.length_append]; congr 1; omega, ⟨by rw [b1, a1]; simp, by rw [b2, a2], b3, by rw [b4, a4]; simp, fun x hx hxp => ?_⟩, ?_⟩
    · rw [b5 x (fun z => hx (List.mem_append_right _ z)) hxp, a5 x (fun z => hx (List.mem_append_left _ z)) hxp]
    · rw [FitsL]
      refine ⟨fits_same t (fun x hx => ?_) F1, F2⟩
      refine (b5 x (fun z => n3 x hx x z rfl) fun z => ?_).symm
      exact (hk x (List.mem_append_left _ hx)).1 (z ▸ hm)
end
/-- the text of a tree is read back -/
theorem rd_tree {t : T} (nd : (pre t).Nodup) (hk : ∀ k ∈ pre t, keyT k = true) (hl : (pre t).length ≤ 60) (hd : dep t ≤ 20) : ∃ s, rd RS.nil 0 (linesT 0 t) = .ok s ∧ s.tree = t ∧ s.ks = pre t := by
  obtain ⟨k, cs⟩ := t
  rw [pre] at nd hk hl
  have hdd := hd
  rw [dep] at hd
  rw [List.length_cons] at hl
  have nd2 := List.nodup_cons.mp nd
  have kk := hk k (List.mem_cons_self ..)
  have c : canR RS.nil 0 k = true := canR_iff.mpr ⟨(by simp [RS.nil]), (by simp [RS.nil]), by omega, by simp [RS.nil]⟩
  have ea : RS.nil.add 0 k = ⟨[k], fun _ => [], fun _ => 1, [k]⟩ := rfl
  rw [linesT, rep_two, rd_yes (splitT_mk kk 0) c]
  obtain ⟨s2, e2, ⟨r1, r2, r3, r4, r5⟩, F⟩ := rd_L cs 1 1 (RS.nil.add 0 k) [] (Nat.le_refl _) (by rw [ea]; simp) (by rw [ea]; simp [RS.home]) nd2.2
    (fun x hx => ⟨fun z => by
      rw [ea] at z
      exact nd2.1 (by rw [← List.mem_singleton.mp z]; exact hx), hk x (List.mem_cons_of_mem _ hx)⟩)
    (by rw [ea]; simp; omega) (by omega)
  rw [List.append_nil] at e2
  have hom : (RS.nil.add 0 k).home 1 = k := rfl
  rw [hom] at r4
  have root : s2.root = k := by
    have e := congrArg (fun l : List Str => l[0]?) r2
    simp only [List.getElem?_take] at e
    rw [if_pos (by omega), if_pos (by omega)] at e
    unfold RS.root
    rw [List.getD_eq_getElem?_getD, e]; rfl
  have FT : Fits s2.f (.node k cs) := by rw [Fits]; exact ⟨by rw [r4]; rfl, F⟩
  refine ⟨s2, by rw [e2, rd], ?_, by rw [r1, pre]; rfl⟩
  unfold RS.tree
  rw [root]
  exact build_fits 19 (.node k cs) FT hdd
end LK
namespace LK
open PySem PySem.Spec PyProof.Rows L2 DS MA
def sp_tree_from (n : Nat) : DSp := fun ds μ Q _ => ∃ t f x kvs, ds = [.str t.key, x] ∧ dep t ≤ n ∧ (pre t).length ≤ 1000 ∧ Fits f t ∧ dicD μ x = some kvs ∧ (∀ k ∈ pre t, ∃ v, valD kvs (.inr k) = some v ∧ seqD μ v = some (sts (f k))) ∧ Q (enc t) μ
theorem no_tree_from {ds μ Q E} (h : sp_tree_from 0 ds μ Q E) : False := by
  obtain ⟨⟨k, cs⟩, f, x, kvs, rfl, h, _⟩ := h; rw [dep] at h; omega
theorem len_tree_from {n} : ∀ ds μ Q E, sp_tree_from n ds μ Q E → ds.length = 2 := by rintro ds μ Q E ⟨t, f, x, kvs, rfl, _⟩; rfl
def t_tree_from (n : Nat) : DTS := (dRet (dTup (dCons (dVar 0) (dCons (dCB drTuple (dCons (dLcS (jSeq (dDGet (dVar 1) (dVar 0))) (hName 2) dYes (dCall (sp_tree_from n) [] (dCons (dVar 2) (dCons (dVar 1) dNil))) [2]) dNil)) dNil))))
theorem read_tree_from (n : Nat) : ∀ ds μ Q E, sp_tree_from (n + 1) ds μ Q E → t_tree_from n { nx := fun _ μ' => Q .non μ', rt := Q } (begin_ ["key", "children", "child"] ds) μ := by
  rintro ds μ Q E ⟨⟨k, cs⟩, f, x, kvs, rfl, hd, hl, fit, hx, hv, q⟩
  unfold t_tree_from dLcS dLc
  rw [Fits] at fit
  rw [dep] at hd
  have l1 := len_le_preL cs
  have hl2 : (preL cs).length + 1 ≤ 1000 := by rw [pre] at hl; simpa using hl
  obtain ⟨v, hv1, hv2⟩ := hv k (by rw [pre]; exact List.mem_cons_self ..)
  refine r_var rfl ?_
  refine r_var rfl ?_
  refine r_var rfl ?_
  refine get_ok hx rfl hv1 ?_
  split
  · cases hv2
  rw [hv2]
  refine lc_pure (zs := encL cs) hv2 (by simp [sts, fit.1]; omega) (by simp [sts, fit.1, encL_length]) ?_ ?_
  · intro i d y hd' hy R r
    rw [encL_map, List.getElem?_map] at hy
    rw [sts, fit.1, List.getElem?_map, List.getElem?_map] at hd'
    cases e : cs[i]? with
    | none => rw [e] at hy; cases hy
    | some c =>
      rw [e] at hy hd'; cases hy; cases hd'
      have hc := List.mem_of_getElem? e
      refine r_var rfl ?_
      refine r_var rfl ?_
      refine ⟨c, f, x, kvs, rfl, ?_, ?_, FitsL_mem.mp fit.2 c hc, hx, ?_, r⟩
      · have := depL_mem hc; omega
      · have := preL_len hc; omega
      · intro y hy; exact hv y (by rw [pre]; exact List.mem_cons_of_mem _ (preL_sub hc y hy))
  · refine dr_tupleL ⟨(by show 2 ≤ sizeLine; decide), ?_⟩
    rw [enc] at q; exact q
end LK
namespace LK
open PySem PySem.Spec PyProof.Rows L2 DS MA
/-- a dict of lists that is being written, all of it new since μ0 -/
structure DM (μ0 μ : Mu) (p : Addr) (ks : List Str) (f : Str → List Str) (ad : Str → Addr) : Prop where
  le : Le μ0 μ
  hp : μ p = some (.dic (refsD ks ad))
  hl : ∀ k ∈ ks, μ (ad k) = some (.lst (sts (f k)))
  inj : ∀ k ∈ ks, ∀ k' ∈ ks, ad k = ad k' → k = k'
  fp : μ0 p = none
  fl : ∀ k ∈ ks, μ0 (ad k) = none
section
variable {μ0 μ : Mu} {p : Addr} {ks : List Str} {f : Str → List Str} {ad : Str → Addr}
theorem DM.mono {μ' : Mu} (D : DM μ0 μ p ks f ad) (l : Le μ μ') : DM μ0 μ' p ks f ad := ⟨D.le.trans l, l _ _ D.hp, fun k hk => l _ _ (D.hl k hk), D.inj, D.fp, D.fl⟩
theorem DM.adp (D : DM μ0 μ p ks f ad) {k : Str} (hk : k ∈ ks) : ad k ≠ p := fun e => by
  have h := D.hl k hk
  rw [e, D.hp] at h; cases h
theorem DM.congr {g : Str → List Str} (D : DM μ0 μ p ks f ad) (h : ∀ k ∈ ks, g k = f k) : DM μ0 μ p ks g ad := ⟨D.le, D.hp, fun k hk => by rw [h k hk]; exact D.hl k hk, D.inj, D.fp, D.fl⟩
theorem DM.app {h x : Str} (D : DM μ0 μ p ks f ad) (hh : h ∈ ks) : DM μ0 (up μ (ad h) (.lst (sts (f h ++ [x])))) p ks (fun k => if k = h then f h ++ [x] else f k) ad := by
  refine ⟨D.le.up (D.fl h hh), by rw [up_ne (Ne.symm (D.adp hh))]; exact D.hp, fun k hk => ?_, D.inj, D.fp, D.fl⟩
  by_cases e : k = h
  · subst e; rw [up_same, if_pos rfl]
  · rw [up_ne (fun z => e (D.inj k hk h hh z)), if_neg e]; exact D.hl k hk
theorem DM.row {x : Str} {q : Addr} (D : DM μ0 μ p ks f ad) (hq : μ q = none) (hx : x ∉ ks) :
    DM μ0 (up (up μ q (.lst [])) p (.dic (putD (refsD ks ad) (.inr x) (.ref q)))) p (ks ++ [x]) (fun k => if k = x then [] else f k) (fun k => if k = x then q else ad k) := by
  have n : ∀ {b : Addr} {o : MO}, μ b = some o → b ≠ q := fun {b o} e z => by subst z; rw [hq] at e; cases e
  have hx2 : ∀ k ∈ ks, k ≠ x := fun k hk z => hx (z ▸ hk)
  have hqp : q ≠ p := Ne.symm (n D.hp)
  have spl : ∀ k ∈ ks ++ [x], k ∈ ks ∨ k = x := fun k hk => by simpa using hk
  refine ⟨(D.le.up (D.le.none hq)).up D.fp, ?_, fun k hk => ?_, fun k hk k' hk' => ?_, D.fp, fun k hk => ?_⟩
  · rw [up_same]
    unfold refsD
    rw [putD_mapk (g := fun k => SD.ref (ad k)) hx, List.map_append]
    congr 3
    · refine List.map_congr_left fun k hk => ?_
      show _ = ((Sum.inr k : Key), SD.ref (if k = x then q else ad k))
      rw [if_neg (hx2 k hk)]
    · simp
  · rcases spl k hk with hk | rfl
    · rw [if_neg (hx2 k hk), if_neg (hx2 k hk), up_ne (D.adp hk), up_ne (n (D.hl k hk))]; exact D.hl k hk
    · rw [if_pos rfl, if_pos rfl, up_ne hqp, up_same]; rfl
  · rcases spl k hk with h1 | rfl <;> rcases spl k' hk' with h2 | h2
    · rw [if_neg (hx2 k h1), if_neg (hx2 k' h2)]; exact D.inj k h1 k' h2
    · rw [if_neg (hx2 k h1), if_pos h2]; intro z; exact (n (D.hl k h1) z).elim
    · rw [if_pos rfl, if_neg (hx2 k' h2)]; intro z; exact (n (D.hl k' h2) z.symm).elim
    · intro _; exact h2.symm
  · rcases spl k hk with hk | rfl
    · rw [if_neg (hx2 k hk)]; exact D.fl k hk
    · rw [if_pos rfl]; exact D.le.none hq
end
/-- one line more: what is in memory -/
theorem DM.step {μ0 μ : Mu} {p q : Addr} {s : RS} {ad : Str → Addr} {d : Nat} {k : Str} (D : DM μ0 μ p s.ks s.f ad) (o : RSOk s) (c : canR s d k = true) (h0 : 0 < d) (hq : up μ (ad (s.home d)) (.lst (sts (s.f (s.home d) ++ [k]))) q = none) :
    DM μ0 (up (up (up μ (ad (s.home d)) (.lst (sts (s.f (s.home d) ++ [k])))) q (.lst [])) p (.dic (putD (refsD s.ks ad) (.inr k) (.ref q)))) p (s.add d k).ks (s.add d k).f (fun x => if x = k then q else ad x) := by
  obtain ⟨c1, c2, c3, c4⟩ := canR_iff.mp c
  have w0 : s.way ≠ [] := fun z => by rw [if_pos z] at c4; omega
  rw [if_neg w0] at c4
  obtain ⟨e1, e2, e3⟩ := RS.home_mem o c4.1 c4.2
  have R := (D.app (x := k) e2).row hq c1
  have ea : s.add d k = ⟨s.ks ++ [k], putIn s.f (s.home d) k (s.f (s.home d)).length, levIn s.lev (s.home d) k, s.way.take d ++ [k]⟩ := by
    unfold RS.add; rw [if_neg (by omega)]
  rw [ea]
  refine R.congr fun x hx => ?_
  show putIn _ _ _ _ x = _
  unfold putIn
  by_cases e : x = k
  · rw [if_pos e, if_pos e]
  · rw [if_neg e, if_neg e, List.take_length, List.drop_length, List.append_nil]
theorem DM.first {μ0 μ : Mu} {p q : Addr} {s : RS} {ad : Str → Addr} {k : Str} (D : DM μ0 μ p s.ks s.f ad) (o : RSOk s) (c : canR s 0 k = true) (hq : μ q = none) :
    DM μ0 (up (up μ q (.lst [])) p (.dic (putD (refsD s.ks ad) (.inr k) (.ref q)))) p (s.add 0 k).ks (s.add 0 k).f (fun x => if x = k then q else ad x) := by
  obtain ⟨c1, c2, c3, c4⟩ := canR_iff.mp c
  have w0 : s.way = [] := Classical.byContradiction fun z => by rw [if_neg z] at c4; omega
  have k0 : s.ks = [] := Classical.byContradiction fun z => (o.ne z).1 w0
  have R := D.row (x := k) hq c1
  have ea : s.add 0 k = ⟨s.ks ++ [k], s.f, s.lev, [k]⟩ := rfl
  rw [ea]
  refine R.congr fun x hx => ?_
  have f0 : s.f = fun _ => [] := by rw [o.e k0]; rfl
  show s.f x = _
  rw [f0]
  simp
def lineR (l : Str) : SD := match splitT l with
  | some (d, k) => .tup [.int (d : Nat), .str k]
  | none => .non
theorem lst_ok {l : Str} (h : PyData.strOk l = true) : PyData.strOk (Txt.lstripChars l " ") = true := by
  rw [strOk_iff] at h ⊢
  intro c hc
  refine h c ?_
  have : c ∈ (cpl l).dropWhile fun c => c == 32 := by rw [← lst_cpl]; exact hc
  exact (List.dropWhile_sublist _).subset this
theorem lst_len (l : Str) : (Txt.lstripChars l " ").length ≤ l.length := by
  rw [← cpl_len, ← cpl_len, lst_cpl]
  exact (List.dropWhile_sublist _).length_le
def sp_split_line : DSp := fun ds μ Q _ => ∃ (l : Str), ds = [.str l] ∧ PyData.strOk l = true ∧ l.length ≤ 100000 ∧ Q (lineR l) μ
theorem len_split_line : ∀ ds μ Q E, sp_split_line ds μ Q E → ds.length = 1 := by rintro ds μ Q E ⟨l, rfl, _⟩; rfl
def t_split_line : DTS := (dSeq (dSet (dText1 drLstrip (dVar 0) (dC (.str " "))) 1)
    (dSeq (dAsg (dCB drDivmod (dCons (dOp dSub (dCB drLen (dCons (dVar 0) dNil)) (dCB drLen (dCons (dVar 1) dNil))) (dCons (dCB drLen (dCons (dC (.str "  ")) dNil)) dNil))) (hTup 2 (hCons (hName 2) (hCons (hName 3) hNil))))
    (dRet (dIf (dAnd (dTest (dOp (dEq false) (dVar 3) (dC (.int 0)))) (dTest (dCall sp_is_key [] (dCons (dVar 1) dNil)))) (dTup (dCons (dVar 2) (dCons (dVar 1) dNil))) (dC .non)))))
theorem read_split_line : ∀ ds μ Q E, sp_split_line ds μ Q E → t_split_line { nx := fun _ μ' => Q .non μ', rt := Q } (begin_ ["line", "key", "depth", "rest"] ds) μ := by
  rintro ds μ Q E ⟨l, rfl, ok, ln, q⟩
  unfold t_split_line
  refine r_var rfl ⟨rfl, ?_⟩
  refine ⟨by rw [sizeLine_eq]; omega, ?_⟩
  have kl := lst_len l
  have ko := lst_ok ok
  unfold lineR splitT at q
  generalize Txt.lstripChars l " " = k at *
  dsimp only
  refine r_var rfl ?_
  refine l_lenS (by rw [sizeLine_eq]; omega) ?_
  refine r_var rfl ?_
  refine l_lenS (by rw [sizeLine_eq]; omega) ?_
  refine i_sub ?_
  refine l_lenS (by rw [sizeLine_eq]; decide +kernel) ?_
  rw [show (("  " : Str).length : Int) = 2 by decide +kernel]
  refine ⟨divP (by omega) (by omega) (by omega), ?_⟩
  have e : (l.length : Int) - (k.length : Int) = ((l.length - k.length : Nat) : Int) := by omega
  rw [e]
  generalize l.length - k.length = b at *
  refine ⟨rfl, rfl, ?_⟩
  dsimp only
  refine r_var rfl ?_
  refine i_eq ?_
  rw [show ((b : Int) / 2) = ((b / 2 : Nat) : Int) by omega, show ((b : Int) % 2) = ((b % 2 : Nat) : Int) by omega]
  by_cases hb : b % 2 = 0
  · rw [hb, decide_eq_true (by rfl)]
    refine ifT rfl ?_
    refine r_var rfl ?_
    refine ⟨.str k, 0, rfl, by rw [okV]; exact ko, show k.length ≤ 300000 by omega, ?_⟩
    by_cases hk : keyT k = true
    · rw [if_pos ⟨hb, hk⟩] at q
      refine ifT hk ?_
      refine r_var rfl ?_
      refine r_var rfl ?_
      exact ⟨(by show 2 ≤ sizeLine; decide), q⟩
    · rw [if_neg fun z => hk z.2] at q
      refine ifF (show keyT k = false by simpa using hk) q
  · rw [if_neg fun z => hb z.1] at q
    rw [decide_eq_false (by omega)]
    exact ifF rfl (ifF rfl q)
def trF (p : Addr) (w : List SD) : List (Str × SD) := [("child_keys", .ref p), ("way", .lst w)]
theorem trF_c {p : Addr} {w : List SD} : (trF p w).lookup ("child_keys" : Str) = some (.ref p) := rfl
theorem trF_w {p : Addr} {w : List SD} : (trF p w).lookup ("way" : Str) = some (.lst w) := rfl
theorem trF_m {p : Addr} {w : List SD} : (trF p w).lookup ("can_follow" : Str) = none ∧ (trF p w).lookup ("add" : Str) = none := ⟨rfl, rfl⟩
structure RM (μ0 μ : Mu) (o p : Addr) (s : RS) (ad : Str → Addr) : Prop where
  D : DM μ0 μ p s.ks s.f ad
  ho : μ o = some (.obj "TreeReader" (trF p (sts s.way)))
  fo : μ0 o = none
section
variable {μ0 μ : Mu} {o p : Addr} {s : RS} {ad : Str → Addr}
theorem RM.mono {μ' : Mu} (R : RM μ0 μ o p s ad) (l : Le μ μ') : RM μ0 μ' o p s ad := ⟨R.D.mono l, l _ _ R.ho, R.fo⟩
theorem RM.op (R : RM μ0 μ o p s ad) : o ≠ p := fun e => by have := R.ho; rw [e, R.D.hp] at this; cases this
theorem RM.ao (R : RM μ0 μ o p s ad) {k : Str} (hk : k ∈ s.ks) : ad k ≠ o := fun e => by have := R.ho; rw [← e, R.D.hl k hk] at this; cases this
end
def sp_TreeReader_init : DSp := fun ds μ Q _ => ∃ (o : Addr), ds = [.ref o] ∧ μ o = some (.obj "TreeReader" []) ∧ ∀ p, μ p = none → Q .non (up (up μ p (.dic [])) o (.obj "TreeReader" (trF p [])))
theorem len_TreeReader_init : ∀ ds μ Q E, sp_TreeReader_init ds μ Q E → ds.length = 1 := by rintro ds μ Q E ⟨o, rfl, _⟩; rfl
def t_TreeReader_init : DTS := (dSeq (dPutA "TreeReader" "child_keys" (dVar 0) dDict0M)
    (dPutA "TreeReader" "way" (dVar 0) (dLst dNil)))
theorem read_TreeReader_init : ∀ ds μ Q E, sp_TreeReader_init ds μ Q E → t_TreeReader_init { nx := fun _ μ' => Q .non μ', rt := Q } (begin_ ["self"] ds) μ := by
  rintro ds μ Q E ⟨o, rfl, ho, q⟩
  unfold t_TreeReader_init
  intro p hp
  have nop : o ≠ p := fun e => by rw [e, hp] at ho; cases ho
  refine r_var rfl ?_
  refine putA_ok (fs := []) (by rw [up_ne nop]; exact ho) (by decide) ?_
  refine ⟨Nat.zero_le _, ?_⟩
  refine r_var rfl ?_
  refine putA_ok (fs := [("child_keys", .ref p)]) up_same (by show 1 < 900; decide) ?_
  rw [up_up]
  exact q p hp
def sp_TreeReader_can_follow : DSp := fun ds μ Q _ => ∃ (μ0 : Mu) (o p : Addr) (s : RS) (ad : Str → Addr) (d : Nat) (k : Str), ds = [.ref o, .int (d : Nat), .str k] ∧ RM μ0 μ o p s ad ∧ RSOk s ∧ Q (.bl (canR s d k)) μ
theorem len_TreeReader_can_follow : ∀ ds μ Q E, sp_TreeReader_can_follow ds μ Q E → ds.length = 3 := by rintro ds μ Q E ⟨μ0, o, p, s, ad, d, k, rfl, _⟩; rfl
def t_TreeReader_can_follow : DTS := (dSeq (dIfS (dOr (dTest (dDIn false (dVar 2) (dAttr "TreeReader" "child_keys" (dVar 0)))) (dOr (dTest (dOp (dEq false) (dCB drLenD (dCons (dAttr "TreeReader" "child_keys" (dVar 0)) dNil)) (dC (.int 60)))) (dTest (dOp dGe (dVar 1) (dC (.int 20)))))) (dRet (dC (.bl false))) dNext)
    (dRet (dIf (dTest (dOp (dL0 true) (dAttr "TreeReader" "way" (dVar 0)) (dLst dNil))) (dChain dLe dLe (dC (.int 1)) (dVar 1) (dCB drLen (dCons (dAttr "TreeReader" "way" (dVar 0)) dNil))) (dOp (dEq false) (dVar 1) (dC (.int 0))))))
theorem lenR_ok {μ : Mu} {a : Addr} {kvs : List (Key × SD)} {Q : SD → Mu → Prop} (h : μ a = some (.dic kvs)) (q : Q (.int kvs.length) μ) : drLenD [.ref a] μ Q := by
  unfold drLenD
  have e : mdic μ (.ref a) = some (a, kvs) := by simp [mdic, h]
  simp only [e]; exact q
theorem l0_lstR {μ : Mu} {Q : SD → Mu → Prop} {xs : List SD} {neg : Bool} (q : Q (.bl (neg != xs.isEmpty)) μ) : dL0 neg (.lst xs) (.lst []) μ Q := q
theorem read_TreeReader_can_follow : ∀ ds μ Q E, sp_TreeReader_can_follow ds μ Q E → t_TreeReader_can_follow { nx := fun _ μ' => Q .non μ', rt := Q } (begin_ ["self", "depth", "key"] ds) μ := by
  rintro ds μ Q E ⟨μ0, o, p, s, ad, d, k, rfl, R, ok, q⟩
  unfold t_TreeReader_can_follow
  unfold canR at q
  refine r_var rfl ?_
  refine r_var rfl ?_
  refine attr_ok R.ho trF_c ?_
  refine din_ok (dicD_ref R.D.hp) rfl ?_
  have hv : (valD (refsD s.ks ad) (.inr k)).isSome = decide (k ∈ s.ks) := by
    unfold refsD
    rw [valD_mapk (g := fun k => SD.ref (ad k))]
    by_cases h : k ∈ s.ks
    · rw [if_pos h, decide_eq_true h]; rfl
    · rw [if_neg h, decide_eq_false h]; rfl
  rw [hv]
  by_cases h1 : k ∈ s.ks
  · rw [decide_eq_true h1] at q ⊢
    refine ifT rfl (ifT rfl q)
  rw [decide_eq_false h1] at q ⊢
  refine ifF rfl ?_
  refine r_var rfl ?_
  refine attr_ok R.ho trF_c ?_
  refine lenR_ok R.D.hp ?_
  refine i_eq ?_
  have rl : (refsD s.ks ad).length = s.ks.length := by simp [refsD]
  rw [rl]
  by_cases h2 : s.ks.length = 60
  · rw [decide_eq_true h2] at q
    rw [decide_eq_true (by omega)]
    exact ifT rfl (ifT rfl q)
  rw [decide_eq_false h2] at q
  rw [decide_eq_false (by omega)]
  refine ifF rfl ?_
  refine r_var rfl ?_
  refine i_ge ?_
  by_cases h3 : d < 20
  rotate_left
  · rw [decide_eq_false h3] at q
    rw [decide_eq_true (by omega)]
    exact ifT rfl q
  rw [decide_eq_true h3] at q
  rw [decide_eq_false (by omega)]
  refine ifF rfl ?_
  simp only [dNext]
  refine r_var rfl ?_
  refine attr_ok R.ho trF_w ?_
  refine ⟨Nat.zero_le _, ?_⟩
  refine l0_lstR ?_
  have ee : (sts s.way).isEmpty = s.way.isEmpty := by cases s.way <;> rfl
  rw [ee]
  simp only [Bool.not_false, Bool.true_and] at q
  cases hw : s.way.isEmpty with
  | true =>
    rw [hw, if_pos rfl] at q
    refine ifF rfl ?_
    refine r_var rfl ?_
    refine i_eq ?_
    rw [show decide ((d : Int) = 0) = decide (d = 0) from by
      by_cases h : d = 0
      · rw [decide_eq_true h, decide_eq_true (by omega)]
      · rw [decide_eq_false h, decide_eq_false (by omega)]]
    exact q
  | false =>
    rw [hw, if_neg (by simp)] at q
    refine ifT rfl ?_
    refine r_var rfl ?_
    refine i_le ?_
    by_cases h4 : 1 ≤ d
    · rw [decide_eq_true h4, Bool.true_and] at q
      rw [decide_eq_true (by omega)]
      refine r_var rfl ?_
      refine attr_ok R.ho trF_w ?_
      refine l_len ?_
      refine i_le ?_
      have wl : (sts s.way).length = s.way.length := by simp [sts]
      rw [wl, show decide ((d : Int) ≤ (s.way.length : Int)) = decide (d ≤ s.way.length) from by
        by_cases h : d ≤ s.way.length
        · rw [decide_eq_true h, decide_eq_true (by omega)]
        · rw [decide_eq_false h, decide_eq_false (by omega)]]
      exact q
    · rw [decide_eq_false h4, Bool.false_and] at q
      rw [decide_eq_false (by omega)]
      exact q
def sp_TreeReader_add : DSp := fun ds μ Q _ => ∃ (μ0 : Mu) (o p : Addr) (s : RS) (ad : Str → Addr) (d : Nat) (k : Str), ds = [.ref o, .int (d : Nat), .str k] ∧ RM μ0 μ o p s ad ∧ RSOk s ∧ canR s d k = true ∧ ∀ μ' ad', RM μ0 μ' o p (s.add d k) ad' → Q .non μ'
theorem len_TreeReader_add : ∀ ds μ Q E, sp_TreeReader_add ds μ Q E → ds.length = 3 := by rintro ds μ Q E ⟨μ0, o, p, s, ad, d, k, rfl, _⟩; rfl
def t_TreeReader_add : DTS := (dSeq (dIfS (dTest (dOp dGt (dVar 1) (dC (.int 0)))) (dDrop (dLM dmAppend (dDGet (dAttr "TreeReader" "child_keys" (dVar 0)) (dOp dIx (dAttr "TreeReader" "way" (dVar 0)) (dOp dSub (dVar 1) (dC (.int 1))))) (dCons (dVar 2) dNil))) dNext)
    (dSeq (dDPut (dAttr "TreeReader" "child_keys" (dVar 0)) (dVar 2) (dLstM dNil))
    (dPutA "TreeReader" "way" (dVar 0) (dOp dAdd (dSl (dAttr "TreeReader" "way" (dVar 0)) dNoPart (dPart (dVar 1))) (dLst (dCons (dVar 2) dNil))))))
theorem read_TreeReader_add : ∀ ds μ Q E, sp_TreeReader_add ds μ Q E → t_TreeReader_add { nx := fun _ μ' => Q .non μ', rt := Q } (begin_ ["self", "depth", "key"] ds) μ := by
  rintro ds μ Q E ⟨μ0, o, p, s, ad, d, k, rfl, R, ok, c, q⟩
  unfold t_TreeReader_add
  obtain ⟨c1, c2, c3, c4⟩ := canR_iff.mp c
  have sl := ok.len
  have rl : (refsD s.ks ad).length = s.ks.length := by simp [refsD]
  have fin : ∀ (μ1 : Mu) (ad' : Str → Addr), μ1 o = some (.obj "TreeReader" (trF p (sts s.way))) → DM μ0 μ1 p (s.add d k).ks (s.add d k).f ad' →
      (dPutA "TreeReader" "way" (dVar 0) (dOp dAdd (dSl (dAttr "TreeReader" "way" (dVar 0)) dNoPart (dPart (dVar 1))) (dLst (dCons (dVar 2) dNil)))) { nx := fun _ μ' => Q .non μ', rt := Q } [some (.ref o), some (.int (d : Nat)), some (.str k)] μ1 := fun μ1 ad' ho D => by
    refine r_var rfl ?_
    refine attr_ok ho trF_w ?_
    refine r_var rfl ?_
    refine sl_L ?_
    rw [cutL_to]
    refine r_var rfl ?_
    refine ⟨(by show 1 ≤ sizeLine; decide), ?_⟩
    have wl : s.way.length ≤ 60 := by
      have : s.way.length ≤ s.ks.length := by
        refine len_sub (List.pairwise_iff_getElem.mpr fun i j hi hj hij z => ?_) fun x hx => ?_
        · have a := (ok.way i _ (List.getElem?_eq_getElem hi)).2
          have b := (ok.way j _ (List.getElem?_eq_getElem hj)).2
          rw [z] at a; omega
        · obtain ⟨i, hi, rfl⟩ := List.getElem_of_mem hx
          exact (ok.way i _ (List.getElem?_eq_getElem hi)).1
      omega
    refine l_add (le_line (m := 100) (by simp [sts]; omega) (by omega)) ?_
    refine r_var rfl ?_
    refine putA_ok ho (by show 2 < 900; decide) ?_
    have ew : (sts s.way).take d ++ [SD.str k] = sts (s.add d k).way := by
      unfold RS.add
      split
      · rename_i h; rw [h]; rfl
      · show _ = sts (s.way.take d ++ [k])
        simp [sts]
    rw [ew]
    have hop : o ≠ p := fun e => by rw [e, D.hp] at ho; cases ho
    have hao : ∀ x ∈ (s.add d k).ks, ad' x ≠ o := fun x hx e => by have := D.hl x hx; rw [e, ho] at this; cases this
    refine q _ ad' ⟨⟨D.le.up R.fo, by rw [up_ne (Ne.symm hop)]; exact D.hp, fun x hx => by rw [up_ne (hao x hx)]; exact D.hl x hx, D.inj, D.fp, D.fl⟩, by rw [up_same]; rfl, R.fo⟩
  refine r_var rfl ?_
  refine i_gt ?_
  by_cases h0 : d = 0
  · subst h0
    rw [decide_eq_false (by omega)]
    refine ifF rfl ?_
    simp only [dNext]
    refine ⟨Nat.zero_le _, fun a ha => ?_⟩
    have nao : o ≠ a := fun e => by have := R.ho; rw [e, ha] at this; cases this
    have nap : p ≠ a := fun e => by have := R.D.hp; rw [e, ha] at this; cases this
    refine r_var rfl ?_
    refine attr_ok (by rw [up_ne nao]; exact R.ho) trF_c ?_
    refine r_var rfl ?_
    refine put_ok (by rw [up_ne nap]; exact R.D.hp) rfl (lt_line (m := 100) (by omega) (by omega)) ?_
    exact fin _ _ (by rw [up_ne R.op, up_ne nao]; exact R.ho) (R.D.first ok c ha)
  · have w0 : s.way ≠ [] := fun z => by rw [if_pos z] at c4; exact h0 c4
    rw [if_neg w0] at c4
    obtain ⟨e1, e2, e3⟩ := RS.home_mem ok c4.1 c4.2
    have hao := R.ao e2
    rw [decide_eq_true (by omega)]
    refine ifT rfl ?_
    refine r_var rfl ?_
    refine attr_ok R.ho trF_c ?_
    refine r_var rfl ?_
    refine attr_ok R.ho trF_w ?_
    refine r_var rfl ?_
    refine i_sub ?_
    rw [show (d : Int) - 1 = ((d - 1 : Nat) : Int) by omega]
    refine ix_lst (d := .str (s.home d)) (atI_nat (by rw [sts, List.getElem?_map, e1]; rfl)) ?_
    refine get_ok (dicD_ref R.D.hp) rfl (v := .ref (ad (s.home d))) (by unfold refsD; rw [valD_mapk (g := fun k => SD.ref (ad k)), if_pos e2]) ?_
    refine ⟨isSome_ref (R.D.hl _ e2), ?_⟩
    refine r_var rfl ?_
    have fl : (s.f (s.home d)).length ≤ 60 := by
      have P := ok.G (fun z => by rw [z] at e2; cases e2)
      have p2 := P.perm.length_eq
      rw [List.take_length, List.length_tail] at p2
      obtain ⟨a, b, e⟩ := List.append_of_mem e2
      have : (s.f (s.home d)).length ≤ (s.ks.flatMap s.f).length := by
        conv => rhs; rw [e]
        simp; omega
      omega
    refine dm_append (R.D.hl _ e2) (lt_line (m := 100) (by simp [sts]; omega) (by omega)) ?_
    have es : sts (s.f (s.home d)) ++ [SD.str k] = sts (s.f (s.home d) ++ [k]) := by simp [sts]
    rw [es]
    have ho1 : (up μ (ad (s.home d)) (.lst (sts (s.f (s.home d) ++ [k])))) o = some (.obj "TreeReader" (trF p (sts s.way))) := by rw [up_ne (Ne.symm hao)]; exact R.ho
    have hp1 : (up μ (ad (s.home d)) (.lst (sts (s.f (s.home d) ++ [k])))) p = some (.dic (refsD s.ks ad)) := by rw [up_ne (Ne.symm (R.D.adp e2))]; exact R.D.hp
    refine ⟨Nat.zero_le _, fun a ha => ?_⟩
    have nao : o ≠ a := fun e => by rw [e, ha] at ho1; cases ho1
    have nap : p ≠ a := fun e => by rw [e, ha] at hp1; cases hp1
    refine r_var rfl ?_
    refine attr_ok (by rw [up_ne nao]; exact ho1) trF_c ?_
    refine r_var rfl ?_
    refine put_ok (by rw [up_ne nap]; exact hp1) rfl (lt_line (m := 100) (by omega) (by omega)) ?_
    exact fin _ _ (by rw [up_ne R.op, up_ne nao]; exact ho1) (R.D.step ok c (by omega) ha)
end LK
namespace LK
open PySem PySem.Spec PyProof.Rows L2 DS MA
def lookT (d : SD) (bad : Nat → Prop) (good : SD → Prop) : Prop := match d with
  | .str t => outR (rd RS.nil 0 (Txt.split t "\n")) bad good
  | _ => bad 0
theorem lookT_str {t : Str} {b : Nat → Prop} {g : SD → Prop} : lookT (.str t) b g = outR (rd RS.nil 0 (Txt.split t "\n")) b g := rfl
theorem lookT_ns {d : SD} {b : Nat → Prop} {g : SD → Prop} (h : isStr d = false) (q : b 0) : lookT d b g := by
  cases d with
  | str x => cases h
  | _ => exact q
theorem line_okT {t l : Str} {j : Nat} (ok : PyData.strOk t = true) (h : (Txt.split t "\n")[j]? = some l) : PyData.strOk l = true ∧ l.length ≤ t.length := by
  have m := List.mem_of_getElem? h
  exact ⟨part_ok ok m, part_len feed1 m⟩
theorem lines_atT {t : Str} {μ : Mu} {ρ : Rho} {R : List SD → (Mu → Prop) → Mu → Prop} (h0 : ρ[0]? = some (some (.str t))) (ln : t.length ≤ 100000) (hR : ∀ P : Mu → Prop, (∀ μ', P μ') → R (enums (sts (Txt.split t "\n"))) P μ) :
    jEnum (dCons (dText1 drSplit (dVar 0) (dC (.str "\n"))) dNil) ρ μ R := by
  refine r_var h0 ⟨rfl, ?_⟩
  refine ⟨⟨feed_len, by rw [sizeLine_eq]; omega⟩, ?_⟩
  exact ⟨rfl, hR (fun μ' => seqD μ' (.lst ((Txt.split t "\n").map SD.str)) = some ((Txt.split t "\n").map SD.str)) fun _ => rfl⟩
theorem rd_drop {ls : List Str} {s : RS} {i : Nat} {l : Str} (e : ls[i]? = some l) : rd s i (ls.drop i) = match splitT l with
    | none => .bad i
    | some (d, k) => if canR s d k = true then rd (s.add d k) (i + 1) (ls.drop (i + 1)) else .bad i := by
  obtain ⟨hi, e'⟩ := List.getElem?_eq_some_iff.mp e
  rw [List.drop_eq_getElem_cons hi, e', rd]
  all_goals (cases splitT l <;> rfl)
theorem root_at {s : RS} (ok : RSOk s) (h : s.ks ≠ []) : s.way[0]? = some s.root := by
  obtain ⟨a, b⟩ := ok.ne h
  unfold RS.root
  rw [List.getD_eq_getElem?_getD, List.getElem?_eq_getElem (List.length_pos_iff.mpr a)]; rfl
def sp_read_tree : DSpX := fun ds μ Q E => ∃ (d : SD) (m : Nat), ds = [d] ∧ okV m d ∧ wtV d ≤ 100000 ∧ lookT d (fun j => ∀ μ', Le μ μ' → E "BadText" [("line", .int (j : Nat))] μ') (fun d => ∀ μ', Le μ μ' → Q d μ')
theorem len_read_tree : ∀ ds μ Q E, sp_read_tree ds μ Q E → ds.length = 1 := by rintro ds μ Q E ⟨d, m, rfl, _⟩; rfl
def t_read_tree (Ex : DXX) : DTS := (dSeq (dIfS (dNot (dTest (dCB drIsi (dCons (dVar 0) (dCons (dC (.ty "str")) dNil))))) (dRaise "BadText" "line" Ex (dC (.int 0))) dNext)
    (dSeq (dSet (dMkC "TreeReader" sp_TreeReader_init dNil) 1)
    (dSeq (dFor (jEnum (dCons (dText1 drSplit (dVar 0) (dC (.str "\n"))) dNil)) (hTup 2 (hCons (hName 2) (hCons (hName 3) hNil))) (dSeq (dSet (dCall sp_split_line [] (dCons (dVar 3) dNil)) 4)
    (dSeq (dIfS (dOr (dTest (dIsN (dVar 4))) (dNot (dTest (dMeth "TreeReader" "can_follow" sp_TreeReader_can_follow (dVar 1) (dCons (dOp dIx (dVar 4) (dC (.int 0))) (dCons (dOp dIx (dVar 4) (dC (.int 1))) dNil)))))) (dRaise "BadText" "line" Ex (dVar 2)) dNext)
    (dDrop (dMeth "TreeReader" "add" sp_TreeReader_add (dVar 1) (dCons (dOp dIx (dVar 4) (dC (.int 0))) (dCons (dOp dIx (dVar 4) (dC (.int 1))) dNil)))))))
    (dRet (dCall (sp_tree_from 70) [] (dCons (dOp dIx (dAttr "TreeReader" "way" (dVar 1)) (dC (.int 0))) (dCons (dAttr "TreeReader" "child_keys" (dVar 1)) dNil)))))))
theorem read_read_tree : ∀ ds μ Q E, sp_read_tree ds μ Q E → t_read_tree E { nx := fun _ μ' => Q .non μ', rt := Q } (begin_ ["text", "reader", "index", "line", "found"] ds) μ := by
  rintro ds μ Q E ⟨d, m, rfl, v, wt, L⟩
  unfold t_read_tree
  refine r_var rfl ?_
  refine isi_str v ?_
  cases d with
  | ref a => rw [okV] at v; exact v.elim
  | ty a => rw [okV] at v; exact v.elim
  | rol a => rw [okV] at v; exact v.elim
  | exc a b => rw [okV] at v; exact v.elim
  | ptp a => rw [okV] at v; exact v.elim
  | str t =>
    rw [okV] at v
    rw [wtV] at wt
    have ok : PyData.strOk t = true := v
    have ln : t.length ≤ 100000 := wt
    have nl := parts_n (x := t) feed1
    have lp := split_pos t "\n"
    rw [lookT_str] at L
    refine ifF rfl ?_
    simp only [dNext]
    intro o ho
    refine ⟨o, rfl, up_same, fun p hp => ⟨rfl, ?_⟩⟩
    have nop : o ≠ p := fun e => by rw [e, up_same] at hp; cases hp
    have hp0 : μ p = none := by rw [up_ne (Ne.symm nop)] at hp; exact hp
    have R0 : RM μ (up (up (up μ o (.obj "TreeReader" [])) p (.dic [])) o (.obj "TreeReader" (trF p []))) o p RS.nil (fun _ => o) :=
      ⟨⟨((((Le.refl μ).up ho).up hp0).up ho), by rw [up_ne (Ne.symm nop), up_same]; rfl, fun k hk => (by cases hk), fun k hk => (by cases hk), hp0, fun k hk => (by cases hk)⟩, by rw [up_same]; rfl, ho⟩
    generalize up (up (up μ o (.obj "TreeReader" [])) p (.dic [])) o (.obj "TreeReader" (trF p [])) = μ1 at R0
    dsimp only
    change dSeq _ _ _ [some (.str t), some (.ref o), none, none, none] _
    refine for_seq61 ?_
    refine lines_atT rfl ln fun Pk hP => ?_
    generalize hls : Txt.split t "\n" = ls at *
    refine ⟨fun i ρ μ' => ∃ (a2 a3 a4 : Option SD) (s : RS) (ad : Str → Addr), ρ = [some (.str t), some (.ref o), a2, a3, a4] ∧ RM μ μ' o p s ad ∧ RSOk s ∧ s.ks.length = i ∧ rd RS.nil 0 ls = rd s i (ls.drop i), ⟨none, none, none, RS.nil, _, rfl, R0, RSOk.nil, rfl, rfl⟩, fun _ _ _ _ _ => hP _, ?_, ?_⟩
    · rintro i d ρ μ2 hd ⟨a2, a3, a4, s, ad, rfl, R, so, si, er⟩
      obtain ⟨y, hy, rfl⟩ := enums_at hd
      rw [sts, List.getElem?_map] at hy
      cases e : ls[i]? with
      | none => rw [e] at hy; cases hy
      | some l =>
        rw [e] at hy; cases hy
        obtain ⟨lo, ll⟩ := line_okT ok (by rw [hls]; exact e)
        refine ⟨rfl, rfl, ?_⟩
        dsimp only
        change dSeq _ _ _ [some (.str t), some (.ref o), some (.int (i : Nat)), some (.str l), a4] _
        rw [rd_drop e] at er
        refine r_var rfl ?_
        refine ⟨l, rfl, lo, by omega, ?_⟩
        unfold lineR
        cases es : splitT l with
        | none =>
          rw [es] at er
          dsimp only at er ⊢
          change dSeq _ _ _ [some (.str t), some (.ref o), some (.int (i : Nat)), some (.str l), some .non] _
          refine r_var rfl ?_
          refine ifT rfl ?_
          refine ifT rfl ?_
          refine r_var rfl ?_
          rw [er] at L
          exact L μ2 R.D.le
        | some dk =>
          obtain ⟨d, k⟩ := dk
          rw [es] at er
          dsimp only at er ⊢
          change dSeq _ _ _ [some (.str t), some (.ref o), some (.int (i : Nat)), some (.str l), some (.tup [.int (d : Nat), .str k])] _
          refine r_var rfl ?_
          refine ifF rfl ?_
          refine r_var rfl ?_
          refine meth_ok R.ho trF_m.1 ?_
          refine r_var rfl ?_
          refine ix_tup (d := .int (d : Nat)) rfl ?_
          refine r_var rfl ?_
          refine ix_tup (d := .str k) rfl ?_
          refine ⟨μ, o, p, s, ad, d, k, rfl, R, so, ?_⟩
          cases c : canR s d k with
          | false =>
            rw [c, if_neg (by simp)] at er
            refine ifT rfl ?_
            refine r_var rfl ?_
            rw [er] at L
            exact L μ2 R.D.le
          | true =>
            rw [c, if_pos rfl] at er
            refine ifF rfl ?_
            simp only [dNext]
            refine r_var rfl ?_
            refine meth_ok R.ho trF_m.2 ?_
            refine r_var rfl ?_
            refine ix_tup (d := .int (d : Nat)) rfl ?_
            refine r_var rfl ?_
            refine ix_tup (d := .str k) rfl ?_
            refine ⟨μ, o, p, s, ad, d, k, rfl, R, so, c, fun μ3 ad' R3 => ?_⟩
            exact ⟨_, _, _, s.add d k, ad', rfl, R3, so.add c (splitT_some es).2, by rw [add_ks, List.length_append, si]; rfl, er⟩
    · rintro ρ μ2 ⟨a2, a3, a4, s, ad, rfl, R, so, si, er⟩
      have en : (enums (sts ls)).length = ls.length := by simp [enums, sts]
      rw [en] at si er
      rw [List.drop_length, rd] at er
      have kn : s.ks ≠ [] := fun z => by rw [z] at si; simp at si; omega
      have P := so.plant kn
      refine r_var rfl ?_
      refine attr_ok R.ho trF_w ?_
      refine ix_lst (d := .str s.root) (atI_nat (j := 0) (by rw [sts, List.getElem?_map, root_at so kn]; rfl)) ?_
      refine r_var rfl ?_
      refine attr_ok R.ho trF_c ?_
      have pl : (pre s.tree).length ≤ 60 := Nat.le_trans (len_sub P.nd fun x hx => (P.mem x).mp hx) so.len
      refine ⟨s.tree, s.f, _, refsD s.ks ad, by rw [P.key]; rfl, by have := P.dep; omega, by omega, P.P.fits, dicD_ref R.D.hp, fun k hk => ⟨.ref (ad k), ?_, ?_⟩, ?_⟩
      · unfold refsD; rw [valD_mapk (g := fun k => SD.ref (ad k)), if_pos ((P.mem k).mp hk)]
      · simp only [seqD, R.D.hl k ((P.mem k).mp hk)]
      · rw [er] at L
        exact L μ2 R.D.le
  | _ => exact ifT rfl (L μ (Le.refl μ))
end LK
namespace LK
open PySem PySem.Spec PyProof.Rows L2 DS MA
theorem keyB_lowV {k : Str} (h : LowK k) : keyB (.str k) = true := by
  obtain ⟨h1, h2, h3⟩ := h
  rw [keyB_eq, decide_eq_true (show 1 ≤ k.length from h1), decide_eq_true (show k.length ≤ 8 from h2), Bool.true_and, Bool.true_and]
  refine List.all_eq_true.mpr fun c hc => decide_eq_true ?_
  obtain ⟨a, b⟩ := h3 c hc
  rw [show abcS.cps.toList = (List.range 26).map (97 + ·) from abc]
  exact List.mem_map.mpr ⟨c - 97, List.mem_range.mpr (by omega), by omega⟩
theorem allO_enc {n : Nat} (h : ∀ t : MA.T, dep t ≤ n → (∀ k ∈ pre t, LowK k) → kin n (enc t) = some (pre t)) : ∀ cs : List MA.T, depL cs ≤ n → (∀ k ∈ preL cs, LowK k) → allO (kin n) (encL cs) = some (preL cs)
  | [], _, _ => by rw [encL, allO, preL]
  | c :: r, hd, hk => by
    rw [depL] at hd
    rw [preL] at hk
    have a := h c (by omega) fun k hk' => hk k (List.mem_append_left _ hk')
    have b := allO_enc h r (by omega) fun k hk' => hk k (List.mem_append_right _ hk')
    rw [encL, allO, a, b, preL]
theorem kin_enc : ∀ (n : Nat) (t : MA.T), dep t ≤ n → (∀ k ∈ pre t, LowK k) → kin n (enc t) = some (pre t)
  | 0, t, h, _ => by cases t; rw [dep] at h; omega
  | n + 1, .node k cs, h, hk => by
    rw [dep] at h
    rw [pre] at hk
    have a := allO_enc (kin_enc n) cs (by omega) fun x hx => hk x (List.mem_cons_of_mem _ hx)
    rw [enc, kin, keyB_lowV (hk k (List.mem_cons_self ..)), if_pos rfl, a, pre]
    rfl
theorem tree_B {t : MA.T} (h : dep t ≤ 20) (hk : ∀ k ∈ pre t, LowK k) (nd : (pre t).Nodup) (l : (pre t).length ≤ 60) : treeB (enc t) = true := by
  unfold treeB
  rw [kin_enc 20 t h hk]
  show (decide ((pre t).length ≤ 60) && decide (pre t).Nodup) = true
  rw [decide_eq_true l, decide_eq_true nd]; rfl
structure VS where
  t : MA.T
  L : List (Str × Int)
  fo : List Str
  s : Int
def vsD (v : VS) : SD := .tup [enc v.t, .tup (v.L.map siD), .tup (sts v.fo), .int v.s]
structure VwAt (μ : Mu) (a p : Addr) (v : VS) (past : List VS) : Prop where
  at_ : μ a = some (.obj "View" [("present", vsD v), ("past", .ref p)])
  pa : μ p = some (.lst (past.map vsD))
  len : past.length ≤ 1000
def LeV (a p : Addr) (μ μ' : Mu) : Prop := ∀ x m, x ≠ a → x ≠ p → μ x = some m → μ' x = some m
theorem LeV.of {a p : Addr} {μ μ' : Mu} (l : Le μ μ') : LeV a p μ μ' := fun x m _ _ e => l x m e
theorem LeV.trans {a p : Addr} {μ μ1 μ2 : Mu} (h : LeV a p μ μ1) (k : LeV a p μ1 μ2) : LeV a p μ μ2 := fun x m n1 n2 e => k x m n1 n2 (h x m n1 n2 e)
theorem VwAt.ne {μ : Mu} {a p : Addr} {v : VS} {past : List VS} (V : VwAt μ a p v past) : a ≠ p := fun z => by
  have := V.at_
  rw [z, V.pa] at this; cases this
theorem VwAt.le {μ μ' : Mu} {a p : Addr} {v : VS} {past : List VS} (V : VwAt μ a p v past) (l : Le μ μ') : VwAt μ' a p v past := ⟨l _ _ V.at_, l _ _ V.pa, V.len⟩
section
variable {μ : Mu} {a p : Addr} {v : VS} {past : List VS} {Q : SD → Mu → Prop}
theorem view_at (V : VwAt μ a p v past) {j : Nat} {d : SD} (h : [enc v.t, .tup (v.L.map siD), .tup (sts v.fo), .int v.s][j]? = some d) (q : Q d μ) : aQ "View" "present" (fun x μ1 => dIx x (.int (j : Int)) μ1 Q) (.ref a) μ := by
  refine attr_ok V.at_ (v := vsD v) rfl ?_
  exact ix_tup (atI_nat h) q
end
def sp_View_tree : DSp := fun ds μ Q _ => ∃ (a p : Addr) (v : VS) (past : List VS), ds = [.ref a] ∧ VwAt μ a p v past ∧ Q (enc v.t) μ
theorem len_View_tree : ∀ ds μ Q E, sp_View_tree ds μ Q E → ds.length = 1 := by rintro ds μ Q E ⟨a, p, v, past, rfl, _⟩; rfl
def t_View_tree : DTS := (dRet (dOp dIx (dAttr "View" "present" (dVar 0)) (dC (.int 0))))
theorem read_View_tree : ∀ ds μ Q E, sp_View_tree ds μ Q E → t_View_tree { nx := fun _ μ' => Q .non μ', rt := Q } (begin_ ["self"] ds) μ := by
  rintro ds μ Q E ⟨a, p, v, past, rfl, V, q⟩
  unfold t_View_tree
  refine r_var rfl ?_
  exact view_at (j := 0) V rfl q
def sp_View_focused : DSp := fun ds μ Q _ => ∃ (a p : Addr) (v : VS) (past : List VS), ds = [.ref a] ∧ VwAt μ a p v past ∧ Q (.tup (sts v.fo)) μ
theorem len_View_focused : ∀ ds μ Q E, sp_View_focused ds μ Q E → ds.length = 1 := by rintro ds μ Q E ⟨a, p, v, past, rfl, _⟩; rfl
def t_View_focused : DTS := (dRet (dOp dIx (dAttr "View" "present" (dVar 0)) (dC (.int 2))))
theorem read_View_focused : ∀ ds μ Q E, sp_View_focused ds μ Q E → t_View_focused { nx := fun _ μ' => Q .non μ', rt := Q } (begin_ ["self"] ds) μ := by
  rintro ds μ Q E ⟨a, p, v, past, rfl, V, q⟩
  unfold t_View_focused
  refine r_var rfl ?_
  exact view_at (j := 2) V rfl q
def sp_View_spent : DSp := fun ds μ Q _ => ∃ (a p : Addr) (v : VS) (past : List VS), ds = [.ref a] ∧ VwAt μ a p v past ∧ Q (.int v.s) μ
theorem len_View_spent : ∀ ds μ Q E, sp_View_spent ds μ Q E → ds.length = 1 := by rintro ds μ Q E ⟨a, p, v, past, rfl, _⟩; rfl
def t_View_spent : DTS := (dRet (dOp dIx (dAttr "View" "present" (dVar 0)) (dC (.int 3))))
theorem read_View_spent : ∀ ds μ Q E, sp_View_spent ds μ Q E → t_View_spent { nx := fun _ μ' => Q .non μ', rt := Q } (begin_ ["self"] ds) μ := by
  rintro ds μ Q E ⟨a, p, v, past, rfl, V, q⟩
  unfold t_View_spent
  refine r_var rfl ?_
  exact view_at (j := 3) V rfl q
/-- a tree that may be passed in -/
structure TrF (t : MA.T) : Prop where
  nd : (pre t).Nodup
  low : ∀ k ∈ pre t, KeyOk k ∧ LowK k
  dp : dep t ≤ 20
  tl : (pre t).length ≤ 60
theorem TrF.tok {t : MA.T} (h : TrF t) : TOk t := ⟨by have := h.tl; omega, by have := h.dp; omega, fun k hk => (h.low k hk).1⟩
theorem TrF.val {t : MA.T} (h : TrF t) : Val 0 40 4000 (enc t) := (enc_val t fun k hk => (h.low k hk).1).mono (Nat.le_refl _) (by have := h.dp; omega) (by have := h.tl; omega)
def sp_View_init : DSpX := fun ds μ Q _ => ∃ (a : Addr) (t : MA.T), ds = [.ref a, enc t, .tup []] ∧ μ a = some (.obj "View" []) ∧ TrF t ∧ ∀ p μ', p ≠ a → VwAt μ' a p ⟨t, [], [], 0⟩ [] → (∀ x m, x ≠ a → μ x = some m → μ' x = some m) → Q .non μ'
theorem len_View_init : ∀ ds μ Q E, sp_View_init ds μ Q E → ds.length = 3 := by rintro ds μ Q E ⟨a, t, rfl, _⟩; rfl
def t_View_init (Ex : DXX) : DTS := (dSeq (dIfS (dNot (dTest (dCall sp_is_tree [] (dCons (dVar 1) dNil)))) (dRaise "BadTree" "value" Ex (dVar 1)) dNext)
    (dSeq (dIfS (dNot (dTest (dCall sp_are_costs [] (dCons (dVar 2) dNil)))) (dRaise "BadCosts" "value" Ex (dVar 2)) dNext)
    (dSeq (dPutA "View" "present" (dVar 0) (dTup (dCons (dVar 1) (dCons (dVar 2) (dCons (dTup dNil) (dCons (dC (.int 0)) dNil))))))
    (dPutA "View" "past" (dVar 0) (dLstM dNil)))))
theorem read_View_init : ∀ ds μ Q E, sp_View_init ds μ Q E → t_View_init E { nx := fun _ μ' => Q .non μ', rt := Q } (begin_ ["self", "tree", "costs"] ds) μ := by
  rintro ds μ Q E ⟨a, t, rfl, ha, K, q⟩
  unfold t_View_init
  have tv := K.val
  refine r_var rfl ?_
  refine ⟨enc t, 0, rfl, tv.ok, Nat.le_trans tv.wt (by omega), fun μ1 l1 => ?_⟩
  rw [tree_B K.dp (fun k hk => (K.low k hk).2) K.nd K.tl]
  refine ifF rfl ?_
  simp only [dNext]
  refine r_var rfl ?_
  refine ⟨.tup [], 0, rfl, by rw [okV, okVL]; trivial, by rw [wtV, wtVL]; omega, ?_⟩
  rw [show costsB (.tup []) = true from rfl]
  refine ifF rfl ?_
  simp only [dNext]
  refine r_var rfl ?_
  refine r_var rfl ?_
  refine ⟨Nat.zero_le _, ?_⟩
  refine ⟨(by show 4 ≤ sizeLine; decide), ?_⟩
  refine r_var rfl ?_
  refine putA_ok (fs := []) (l1 _ _ ha) (by show 0 < 900; omega) ?_
  dsimp only
  refine ⟨Nat.zero_le _, fun p hp => ?_⟩
  have pa : p ≠ a := by rintro rfl; rw [up_same] at hp; cases hp
  have p1 : μ1 p = none := by rw [up_ne pa] at hp; exact hp
  refine r_var rfl ?_
  refine putA_ok (fs := [("present", vsD ⟨t, [], [], 0⟩)]) (by rw [up_ne (Ne.symm pa), up_same]; rfl) (by show 1 < 900; omega) ?_
  dsimp only
  refine q p _ pa ⟨?_, ?_, Nat.zero_le _⟩ fun x m n e => ?_
  · rw [up_same]; rfl
  · rw [up_ne pa, up_same]; rfl
  · have n2 : x ≠ p := by rintro rfl; rw [l1 _ _ e] at p1; cases p1
    rw [up_ne n, up_ne n2, up_ne n]; exact l1 _ _ e
def sp_View___len__ : DSp := fun ds μ Q _ => ∃ (a p : Addr) (v : VS) (past : List VS), ds = [.ref a] ∧ VwAt μ a p v past ∧ TOk v.t ∧ ∀ μ', Le μ μ' → Q (.int ((pre v.t).length : Nat)) μ'
theorem len_View___len__ : ∀ ds μ Q E, sp_View___len__ ds μ Q E → ds.length = 1 := by rintro ds μ Q E ⟨a, p, v, past, rfl, _⟩; rfl
def t_View___len__ : DTS := (dRet (dCB drLen (dCons (dCall sp_keys_of [] (dCons (dOp dIx (dAttr "View" "present" (dVar 0)) (dC (.int 0))) dNil)) dNil)))
theorem read_View___len__ : ∀ ds μ Q E, sp_View___len__ ds μ Q E → t_View___len__ { nx := fun _ μ' => Q .non μ', rt := Q } (begin_ ["self"] ds) μ := by
  rintro ds μ Q E ⟨a, p, v, past, rfl, V, ok, q⟩
  unfold t_View___len__
  refine r_var rfl ?_
  refine view_at (j := 0) V rfl ?_
  refine ⟨v.t, rfl, ok, fun μ' l => ?_⟩
  show Q (.int ((sts (pre v.t)).length : Nat)) μ'
  rw [show (sts (pre v.t)).length = (pre v.t).length by simp [sts]]
  exact q μ' l
end LK
namespace LK
open PySem PySem.Spec PyProof.Rows L2 DS MA
theorem abc_range : cpl abcS = List.range' 97 26 := by decide +kernel
theorem keyT_of {k : Str} (h : LowK k) : keyT k = true := by
  obtain ⟨a, b, c⟩ := h
  unfold keyT
  rw [keyB_eq, Bool.and_eq_true, Bool.and_eq_true, decide_eq_true_iff, decide_eq_true_iff, List.all_eq_true]
  refine ⟨⟨a, b⟩, fun x hx => decide_eq_true ?_⟩
  have := c x hx
  show x ∈ cpl abcS
  rw [abc_range, List.mem_range'_1]
  omega
mutual
theorem linesT_sgn : ∀ (d : Nat) (t : T), (∀ k ∈ pre t, keyT k = true) → ∀ x ∈ linesT d t, ∀ c ∈ cpl x, c = 32 ∨ c ∈ cpl abcS
  | d, .node k cs, h => by
    rw [linesT, rep_two]
    rw [pre] at h
    intro x hx c hc
    rcases List.mem_cons.mp hx with rfl | hx
    · rw [cpl_app, cpl_blanks] at hc
      rcases List.mem_append.mp hc with hc | hc
      · exact .inl (List.mem_replicate.mp hc).2
      · exact .inr ((keyT_sgn (h k (List.mem_cons_self ..))).2.2 c hc)
    · exact linesL_sgn (d + 1) cs (fun y hy => h y (List.mem_cons_of_mem _ hy)) x hx c hc
theorem linesL_sgn : ∀ (d : Nat) (ts : List T), (∀ k ∈ preL ts, keyT k = true) → ∀ x ∈ linesL d ts, ∀ c ∈ cpl x, c = 32 ∨ c ∈ cpl abcS
  | _, [], _ => by intro x hx; rw [linesL] at hx; cases hx
  | d, t :: r, h => by
    rw [linesL]
    rw [preL] at h
    intro x hx c hc
    rcases List.mem_append.mp hx with hx | hx
    · exact linesT_sgn d t (fun y hy => h y (List.mem_append_left _ hy)) x hx c hc
    · exact linesL_sgn d r (fun y hy => h y (List.mem_append_right _ hy)) x hx c hc
end
theorem sgn_lt {c : Nat} (h : c = 32 ∨ c ∈ cpl abcS) : c ≠ 10 ∧ c < 128 := by
  rcases h with rfl | h
  · decide
  · exact (abc_le c h).2
theorem split_text {t : T} (h : ∀ k ∈ pre t, keyT k = true) : Txt.split (textT 0 t) "\n" = linesT 0 t := by
  rw [text_lines]
  exact TL.split_join (y := "\n") (s := 10) (S := []) rfl (by decide +kernel) (linesT_ne 0 t) fun p hp hc => (sgn_lt (linesT_sgn 0 t h p hp 10 hc)).1 rfl
end LK
namespace LK
open PySem PySem.Spec PyProof.Rows L2 DS MA
def d_KEY_COUNTS : List (Str × Int) := [("focus", 1), ("blur", 1), ("children", 1), ("path", 1), ("undo", 0), ("tree", 0), ("focused", 0), ("spent", 0), ("size", 0)]
structure DkAt (μ : Mu) (o a p : Addr) (v : VS) (past : List VS) : Prop where
  at_ : μ o = some (.obj "Desk" [("held_view", .ref a)])
  V : VwAt μ a p v past
theorem DkAt.le {μ μ' : Mu} {o a p : Addr} {v : VS} {past : List VS} (D : DkAt μ o a p v past) (l : Le μ μ') : DkAt μ' o a p v past := ⟨l _ _ D.at_, D.V.le l⟩
theorem RSOk.trf {s : RS} (o : RSOk s) (h : s.ks ≠ []) : TrF s.tree := by
  have P := o.plant h
  refine ⟨P.nd, fun k hk => ?_, P.dep, Nat.le_trans (len_sub P.nd fun x hx => (P.mem x).mp hx) o.len⟩
  have hk2 := o.key k ((P.mem k).mp hk)
  obtain ⟨a, b, c⟩ := keyT_sgn hk2
  refine ⟨⟨asc_ok fun x hx => (abc_le x (c x hx)).2.2, by show k.length ≤ 61; omega⟩, a, b, fun x hx => ?_⟩
  have h2 : x ∈ cpl abcS := c x hx
  have e : cpl abcS = List.range' 97 26 := by decide +kernel
  rw [e, List.mem_range'_1] at h2
  omega
def lookD (d : SD) (bad : Nat → Prop) (good : RS → Prop) : Prop := match d with
  | .str t => (match rd RS.nil 0 (Txt.split t "\n") with
    | .bad j => bad j
    | .ok s => good s)
  | _ => bad 0
theorem lookD_ns {d : SD} {bad : Nat → Prop} {good : RS → Prop} (h : isStr d = false) (q : bad 0) : lookD d bad good := by
  cases d with
  | str x => cases h
  | _ => exact q
theorem lookD_bad {t : Str} {j : Nat} {bad : Nat → Prop} {good : RS → Prop} (h : rd RS.nil 0 (Txt.split t "\n") = .bad j) (q : bad j) : lookD (.str t) bad good := by
  show (match rd RS.nil 0 (Txt.split t "\n") with
    | .bad j => bad j
    | .ok s => good s)
  rw [h]; exact q
theorem lookD_ok {t : Str} {s : RS} {bad : Nat → Prop} {good : RS → Prop} (h : rd RS.nil 0 (Txt.split t "\n") = .ok s) (q : good s) : lookD (.str t) bad good := by
  show (match rd RS.nil 0 (Txt.split t "\n") with
    | .bad j => bad j
    | .ok s => good s)
  rw [h]; exact q
def sp_Desk_init : DSpX := fun ds μ Q E => ∃ (o : Addr) (d : SD) (m : Nat), ds = [.ref o, d] ∧ μ o = some (.obj "Desk" []) ∧ okV m d ∧ wtV d ≤ 100000 ∧
  lookD d (fun j => ∀ μ', Le μ μ' → E "BadText" [("line", .int (j : Nat))] μ') (fun s => ∀ a p μ', DkAt μ' o a p ⟨s.tree, [], [], 0⟩ [] → TrF s.tree → (∀ x m, x ≠ o → μ x = some m → μ' x = some m) → Q .non μ')
theorem len_Desk_init : ∀ ds μ Q E, sp_Desk_init ds μ Q E → ds.length = 2 := by rintro ds μ Q E ⟨o, d, m, rfl, _⟩; rfl
def t_Desk_init (Ex : DXX) : DTS := (dAsg (dMkCX "View" (defSp sp_View_init) Ex (dCons (dCallX sp_read_tree [] Ex (dCons (dVar 1) dNil)) dNil)) (hFld "Desk" "held_view" (dVar 0)))
theorem read_Desk_init : ∀ ds μ Q E, sp_Desk_init ds μ Q E → t_Desk_init E { nx := fun _ μ' => Q .non μ', rt := Q } (begin_ ["self", "text"] ds) μ := by
  rintro ds μ Q E ⟨o, d, m, rfl, ho, v, wt, q⟩
  unfold t_Desk_init
  refine r_var rfl ?_
  refine ⟨d, m, rfl, v, wt, ?_⟩
  cases d with
  | str t =>
    rw [lookT_str]
    have lp := split_pos t "\n"
    cases hr : rd RS.nil 0 (Txt.split t "\n") with
    | bad j =>
      have q : ∀ μ', Le μ μ' → E "BadText" [("line", .int (j : Nat))] μ' := by
        have q := q
        unfold lookD at q
        simp only [hr] at q
        exact q
      exact q
    | ok s =>
      have q : ∀ a p μ', DkAt μ' o a p ⟨s.tree, [], [], 0⟩ [] → TrF s.tree → (∀ x m, x ≠ o → μ x = some m → μ' x = some m) → Q .non μ' := by
        have q := q
        unfold lookD at q
        simp only [hr] at q
        exact q
      obtain ⟨so, sn⟩ := rd_okS _ _ _ _ RSOk.nil hr
      have kn : s.ks ≠ [] := fun z => by rw [z] at sn; simp at sn; omega
      have K := so.trf kn
      refine fun μ1 l1 => ?_
      refine fun a ha => ?_
      refine ⟨a, s.tree, rfl, up_same, K, fun p μ2 pa V fr => ⟨rfl, ?_⟩⟩
      have oa : o ≠ a := fun e => by have := l1 _ _ ho; rw [e, ha] at this; cases this
      have ho2 : μ2 o = some (.obj "Desk" []) := fr _ _ oa (by rw [up_ne oa]; exact l1 _ _ ho)
      have op : o ≠ p := fun e => by have := V.pa; rw [← e, ho2] at this; cases this
      refine r_var rfl ?_
      refine putA_ok (fs := []) ho2 (by show 0 < 900; omega) ?_
      refine q a p _ ⟨by rw [up_same]; rfl, ⟨by rw [up_ne (Ne.symm oa)]; exact V.at_, by rw [up_ne (Ne.symm op)]; exact V.pa, V.len⟩⟩ K fun x m' n e => ?_
      have xa : x ≠ a := fun z => by have := l1 _ _ e; rw [z, ha] at this; cases this
      rw [up_ne n]
      exact fr _ _ xa (by rw [up_ne xa]; exact l1 _ _ e)
  | _ => exact q
def sp_listed : DSp := fun _ _ _ _ => False
def sp_children_of : DSp := fun _ _ _ _ => False
def sp_path_of : DSp := fun _ _ _ _ => False
def askD (t : MA.T) (d : SD) (bad : Prop) (good : Str → Prop) : Prop :=
  (isStr d = false ∧ bad) ∨ (d = .str "tree" ∧ good (Txt.join " / " (Txt.split (textT 0 t) "\n"))) ∨ (d = .str "size" ∧ good (toString ((pre t).length : Int)))
theorem askD.imp {t : MA.T} {d : SD} {bad bad' : Prop} {good good' : Str → Prop} (h : askD t d bad good) (a : bad → bad') (b : ∀ x, good x → good' x) : askD t d bad' good' := by
  rcases h with ⟨e, h⟩ | ⟨e, h⟩ | ⟨e, h⟩
  · exact .inl ⟨e, a h⟩
  · exact .inr (.inl ⟨e, b _ h⟩)
  · exact .inr (.inr ⟨e, b _ h⟩)
def sp_Desk_say_question : DSpX := fun ds μ Q _ => ∃ (o a p : Addr) (t : MA.T) (w : Str), ds = [.ref o, .lst [.str w]] ∧ DkAt μ o a p ⟨t, [], [], 0⟩ [] ∧ TrF t ∧ askD t (.str w) False (fun x => ∀ μ', Le μ μ' → Q (.str x) μ')
theorem len_Desk_say_question : ∀ ds μ Q E, sp_Desk_say_question ds μ Q E → ds.length = 2 := by rintro ds μ Q E ⟨o, a, p, t, w, rfl, _⟩; rfl
def t_Desk_say_question (Ex : DXX) : DTS := (dSeq (dSet (dAttr "Desk" "held_view" (dVar 0)) 2)
    (dSeq (dIfS (dTest (dOp (dEq false) (dOp dIx (dVar 1) (dC (.int 0))) (dC (.str "tree")))) (dRet (dJoin (dC (.str " / ")) (dText1 drSplit (dCall sp_show_tree [] (dCons (dMeth0 "View" "tree" sp_View_tree (dVar 2)) dNil)) (dC (.str "\n"))))) dNext)
    (dSeq (dIfS (dTest (dOp (dIn false) (dOp dIx (dVar 1) (dC (.int 0))) (dTup (dCons (dC (.str "spent")) (dCons (dC (.str "size")) dNil))))) (dRet (dCB drStr (dCons (dIf (dTest (dOp (dEq false) (dOp dIx (dVar 1) (dC (.int 0))) (dC (.str "spent")))) (dMeth0 "View" "spent" sp_View_spent (dVar 2)) (dLenO "View" sp_View___len__ (dCons (dVar 2) dNil))) dNil))) dNext)
    (dSeq (dIfS (dTest (dOp (dEq false) (dOp dIx (dVar 1) (dC (.int 0))) (dC (.str "focused")))) (dRet (dCall sp_listed [] (dCons (dMeth0 "View" "focused" sp_View_focused (dVar 2)) (dCons (dC (.str " ")) dNil)))) dNext)
    (dSeq (dIfS (dTest (dOp (dEq false) (dOp dIx (dVar 1) (dC (.int 0))) (dC (.str "children")))) (dRet (dCall sp_listed [] (dCons (dCall sp_children_of [] (dCons (dMeth0 "View" "tree" sp_View_tree (dVar 2)) (dCons (dOp dIx (dVar 1) (dC (.int 1))) dNil))) (dCons (dC (.str " ")) dNil)))) dNext)
    (dRet (dCall sp_listed [] (dCons (dCall sp_path_of [] (dCons (dMeth0 "View" "tree" sp_View_tree (dVar 2)) (dCons (dOp dIx (dVar 1) (dC (.int 1))) dNil))) (dCons (dC (.str " ")) dNil)))))))))
theorem size_log {n : Nat} (h : n ≤ 60) : ((n : Int).natAbs).log2 < 1920 := by
  rw [Int.natAbs_natCast]
  by_cases e : n = 0
  · rw [e]; decide
  · refine (Nat.log2_lt e).mpr (Nat.lt_of_le_of_lt h ?_)
    exact Nat.lt_of_lt_of_le (by decide : 60 < 2 ^ 6) (Nat.pow_le_pow_right (by decide) (by decide))
theorem in_two {w a b : Str} {μ : Mu} {Q : SD → Mu → Prop} (q : Q (.bl (decide (w ∈ [a, b]))) μ) : dIn false (.str w) (.tup [.str a, .str b]) μ Q :=
  in_sts (l := [a, b]) rfl (fun z e => by cases e) (by rw [Bool.false_bne]; exact q)
theorem in_three {w a b c : Str} {μ : Mu} {Q : SD → Mu → Prop} (q : Q (.bl (decide (w ∈ [a, b, c]))) μ) : dIn false (.str w) (.tup [.str a, .str b, .str c]) μ Q :=
  in_sts (l := [a, b, c]) rfl (fun z e => by cases e) (by rw [Bool.false_bne]; exact q)
theorem read_Desk_say_question : ∀ ds μ Q E, sp_Desk_say_question ds μ Q E → t_Desk_say_question E { nx := fun _ μ' => Q .non μ', rt := Q } (begin_ ["self", "words", "view"] ds) μ := by
  rintro ds μ Q E ⟨o, a, p, t, w, rfl, D, K, q⟩
  unfold t_Desk_say_question
  refine r_var rfl ?_
  refine attr_ok D.at_ rfl ?_
  dsimp only
  change dSeq _ _ _ [some (.ref o), some (.lst [.str w]), some (.ref a)] _
  refine r_var rfl ?_
  refine ix_lst (d := .str w) rfl ?_
  refine eq_ss ?_
  rcases q with ⟨_, q⟩ | ⟨e, q⟩ | ⟨e, q⟩
  · exact q.elim
  · obtain rfl : w = "tree" := SD.str.inj e
    refine ifT (by decide +kernel) ?_
    refine ⟨rfl, ?_⟩
    refine r_var rfl ?_
    refine meth_ok D.V.at_ rfl ?_
    refine ⟨a, p, _, _, rfl, D.V, ?_⟩
    refine ⟨t, rfl, K.tok, by have := K.dp; omega, fun μ1 l1 => ?_⟩
    have tl := textT_len (d := 0) (t := t) (fun k hk => (K.low k hk).1) (by have := K.dp; omega)
    have kl := K.tl
    have w := split_weight (textT 0 t) "\n" feed1
    refine ⟨rfl, ?_⟩
    refine ⟨⟨feed_len, by rw [sizeLine_eq]; omega⟩, ?_⟩
    refine join_L61 (l := Txt.split (textT 0 t) "\n") ?_ (q μ1 l1)
    have e1 : (" / " : Str).length = 3 := by decide +kernel
    rw [e1]
    omega
  · obtain rfl : w = "size" := SD.str.inj e
    refine ifF (by decide +kernel) ?_
    simp only [dNext]
    refine r_var rfl ?_
    refine ix_lst (d := .str "size") rfl ?_
    refine ⟨(by show 2 ≤ sizeLine; decide), ?_⟩
    refine in_two ?_
    refine ifT (by decide +kernel) ?_
    refine r_var rfl ?_
    refine ix_lst (d := .str "size") rfl ?_
    refine eq_ss ?_
    refine ifF (by decide +kernel) ?_
    refine r_var rfl ?_
    refine meth_ok D.V.at_ rfl ?_
    refine ⟨a, p, _, _, rfl, D.V, K.tok, fun μ1 l1 => ?_⟩
    exact ⟨_, rfl, (by have := K.tl; show (pre t).length < 2 ^ 63; omega), size_log K.tl, q μ1 l1⟩
def sp_Desk_say_tree : DSpX := fun _ _ _ _ => False
def sp_Desk_say_price : DSpX := fun _ _ _ _ => False
def sp_Desk_say_change : DSpX := fun _ _ _ _ => False
def sp_Desk_say : DSpX := fun ds μ Q E => ∃ (o a p : Addr) (t : MA.T) (d : SD) (m : Nat), ds = [.ref o, d] ∧ DkAt μ o a p ⟨t, [], [], 0⟩ [] ∧ TrF t ∧ okV m d ∧ askD t d (E "BadLine" [("line", d)] μ) (fun x => ∀ μ', Le μ μ' → Q (.str x) μ')
theorem len_Desk_say : ∀ ds μ Q E, sp_Desk_say ds μ Q E → ds.length = 2 := by rintro ds μ Q E ⟨o, a, p, t, d, m, rfl, _⟩; rfl
def t_Desk_say (Ex : DXX) : DTS := (dSeq (dIfS (dNot (dTest (dCB drIsi (dCons (dVar 1) (dCons (dC (.ty "str")) dNil))))) (dRaise "BadLine" "line" Ex (dVar 1)) dNext)
    (dSeq (dAsg (dText1 drPart (dVar 1) (dC (.str "\n"))) (hTup 3 (hCons (hName 2) (hCons (hName 3) (hCons (hName 4) hNil)))))
    (dSeq (dIfS (dAnd (dTest (dOp (dIn false) (dVar 2) (dTup (dCons (dC (.str "update")) (dCons (dC (.str "preview")) dNil))))) (dTest (dOp (dEq true) (dVar 3) (dC (.str ""))))) (dRet (dMethX "Desk" "say_tree" sp_Desk_say_tree Ex (dVar 0) (dCons (dVar 1) (dCons (dVar 2) (dCons (dVar 4) dNil))))) dNext)
    (dSeq (dSet (dText1 drSplit (dVar 1) (dC (.str " "))) 5)
    (dSeq (dIfS (dTest (dOp (dEq false) (dOp dIx (dVar 5) (dC (.int 0))) (dC (.str "price")))) (dRet (dMethX "Desk" "say_price" sp_Desk_say_price Ex (dVar 0) (dCons (dVar 1) (dCons (dVar 5) dNil)))) dNext)
    (dSeq (dIfS (dOr (dTest (dOp (dEq true) (dGGet d_KEY_COUNTS (dOp dIx (dVar 5) (dC (.int 0))) (-1)) (dOp dSub (dCB drLen (dCons (dVar 5) dNil)) (dC (.int 1))))) (dNot (dTest (dCB (drBls fun bs => bs.all _root_.id) (dCons (dLcS (jSeq (dSl (dVar 5) (dPart (dC (.int 1))) dNoPart)) (hName 6) dYes (dCall sp_is_key [] (dCons (dVar 6) dNil)) [6]) dNil))))) (dRaise "BadLine" "line" Ex (dVar 1)) dNext)
    (dSeq (dIfS (dTest (dOp (dIn false) (dOp dIx (dVar 5) (dC (.int 0))) (dTup (dCons (dC (.str "focus")) (dCons (dC (.str "blur")) (dCons (dC (.str "undo")) dNil)))))) (dRet (dMethX "Desk" "say_change" sp_Desk_say_change Ex (dVar 0) (dCons (dVar 5) dNil))) dNext)
    (dRet (dMethX "Desk" "say_question" sp_Desk_say_question Ex (dVar 0) (dCons (dVar 5) dNil))))))))))
theorem word_facts {w : Str} (h : w = "tree" ∨ w = "size") : Txt.partition w "\n" = (w, ("" : Str), ("" : Str)) ∧ Txt.split w " " = [w] ∧ decide (w ∈ [("update" : Str), "preview"]) = false ∧ decide (w = "price") = false ∧ d_KEY_COUNTS.lookup w = some 0 ∧ decide (w ∈ [("focus" : Str), "blur", "undo"]) = false ∧ w.length ≤ 100 := by
  rcases h with rfl | rfl <;> decide +kernel
theorem get_q {kvs : List (Str × Int)} {c i : Int} {z : Str} {μ : Mu} {Q : SD → Mu → Prop} (h : kvs.lookup z = some i) (q : Q (.int i) μ) : gGetQ kvs c Q (.str z) μ := by
  show Q (.int ((kvs.lookup z).getD c)) μ
  rw [h]; exact q
theorem word_ok {o a p : Addr} {t : MA.T} {w : Str} {μ : Mu} {Q : SD → Mu → Prop} {E : DXX} (hw : w = "tree" ∨ w = "size") (D : DkAt μ o a p ⟨t, [], [], 0⟩ []) (K : TrF t) (q : askD t (.str w) False (fun x => ∀ μ', Le μ μ' → Q (.str x) μ')) :
    (dSeq (dAsg (dText1 drPart (dVar 1) (dC (.str "\n"))) (hTup 3 (hCons (hName 2) (hCons (hName 3) (hCons (hName 4) hNil)))))
    (dSeq (dIfS (dAnd (dTest (dOp (dIn false) (dVar 2) (dTup (dCons (dC (.str "update")) (dCons (dC (.str "preview")) dNil))))) (dTest (dOp (dEq true) (dVar 3) (dC (.str ""))))) (dRet (dMethX "Desk" "say_tree" sp_Desk_say_tree E (dVar 0) (dCons (dVar 1) (dCons (dVar 2) (dCons (dVar 4) dNil))))) dNext)
    (dSeq (dSet (dText1 drSplit (dVar 1) (dC (.str " "))) 5)
    (dSeq (dIfS (dTest (dOp (dEq false) (dOp dIx (dVar 5) (dC (.int 0))) (dC (.str "price")))) (dRet (dMethX "Desk" "say_price" sp_Desk_say_price E (dVar 0) (dCons (dVar 1) (dCons (dVar 5) dNil)))) dNext)
    (dSeq (dIfS (dOr (dTest (dOp (dEq true) (dGGet d_KEY_COUNTS (dOp dIx (dVar 5) (dC (.int 0))) (-1)) (dOp dSub (dCB drLen (dCons (dVar 5) dNil)) (dC (.int 1))))) (dNot (dTest (dCB (drBls fun bs => bs.all _root_.id) (dCons (dLcS (jSeq (dSl (dVar 5) (dPart (dC (.int 1))) dNoPart)) (hName 6) dYes (dCall sp_is_key [] (dCons (dVar 6) dNil)) [6]) dNil))))) (dRaise "BadLine" "line" E (dVar 1)) dNext)
    (dSeq (dIfS (dTest (dOp (dIn false) (dOp dIx (dVar 5) (dC (.int 0))) (dTup (dCons (dC (.str "focus")) (dCons (dC (.str "blur")) (dCons (dC (.str "undo")) dNil)))))) (dRet (dMethX "Desk" "say_change" sp_Desk_say_change E (dVar 0) (dCons (dVar 5) dNil))) dNext)
    (dRet (dMethX "Desk" "say_question" sp_Desk_say_question E (dVar 0) (dCons (dVar 5) dNil))))))))) { nx := fun _ μ' => Q .non μ', rt := Q } (begin_ ["self", "line", "word", "feed", "text", "words", "key"] [.ref o, .str w]) μ := by
  obtain ⟨f1, f2, f3, f4, f5, f6, f7⟩ := word_facts hw
  refine r_var rfl ⟨rfl, ?_⟩
  refine ⟨⟨feed_len, by rw [sizeLine_eq]; omega⟩, ?_⟩
  rw [f1]
  refine ⟨rfl, rfl, ?_⟩
  dsimp only
  change dSeq _ _ _ [some (.ref o), some (.str w), some (.str w), some (.str ""), some (.str ""), none, none] _
  refine r_var rfl ?_
  refine ⟨(by show 2 ≤ sizeLine; decide), ?_⟩
  refine in_two ?_
  rw [f3]
  refine ifF rfl ?_
  refine ifF rfl ?_
  simp only [dNext]
  refine r_var rfl ⟨rfl, ?_⟩
  refine ⟨⟨blank_len, by rw [sizeLine_eq]; omega⟩, ?_⟩
  rw [f2]
  dsimp only
  change dSeq _ _ _ [some (.ref o), some (.str w), some (.str w), some (.str ""), some (.str ""), some (.lst [.str w]), none] _
  refine r_var rfl ?_
  refine ix_lst (d := .str w) rfl ?_
  refine eq_ss ?_
  rw [f4]
  refine ifF rfl ?_
  simp only [dNext]
  refine r_var rfl ?_
  refine ix_lst (d := .str w) rfl ?_
  refine get_q f5 ?_
  refine r_var rfl ?_
  refine l_len ?_
  refine i_sub ?_
  refine i_ne ?_
  refine ifF (show (!decide ((0 : Int) = ((1 : Nat) : Int) - 1)) = false from by decide) ?_
  refine lc_bools (x := .lst []) (xs := []) (P := fun _ => true) (fun R' h => ?_) (fun z e => by cases e) (fun _ _ => rfl) (by simp) (fun _ _ k hk => by cases hk) ?_
  · refine r_var rfl ?_
    exact sl_L h
  refine fun μ' l' => bls_all (bs := []) ?_
  refine ifF rfl ?_
  simp only [dNext]
  refine r_var rfl ?_
  refine ix_lst (d := .str w) rfl ?_
  refine ⟨(by show 3 ≤ sizeLine; decide), ?_⟩
  refine in_three ?_
  rw [f6]
  refine ifF rfl ?_
  simp only [dNext]
  refine r_var rfl ?_
  refine meth_ok (D.le l').at_ rfl ?_
  refine r_var rfl ?_
  exact ⟨o, a, p, t, w, rfl, D.le l', K, q.imp (fun h => h) fun x h μ2 l2 => h μ2 (l'.trans l2)⟩
theorem read_Desk_say : ∀ ds μ Q E, sp_Desk_say ds μ Q E → t_Desk_say E { nx := fun _ μ' => Q .non μ', rt := Q } (begin_ ["self", "line", "word", "feed", "text", "words", "key"] ds) μ := by
  rintro ds μ Q E ⟨o, a, p, t, d, m, rfl, D, K, v, q⟩
  unfold t_Desk_say
  refine r_var rfl ?_
  refine isi_str v ?_
  rcases q with ⟨hs, q⟩ | ⟨rfl, q⟩ | ⟨rfl, q⟩
  · rw [hs]
    exact ifT rfl (r_var rfl q)
  · refine ifF rfl ?_
    simp only [dNext]
    exact word_ok (.inl rfl) D K (.inr (.inl ⟨rfl, q⟩))
  · refine ifF rfl ?_
    simp only [dNext]
    exact word_ok (.inr rfl) D K (.inr (.inr ⟨rfl, q⟩))
end LK
namespace LK
open PySem PySem.Spec PyProof.Rows L2 DS MA
structure OddQ (n : Nat) (d : SD) : Prop where
  val : Val (10 ^ 30) (2 + n) (20 + 10 * n) d
  ns : isStr d = false
theorem OddQ.mono {n m : Nat} {d : SD} (O : OddQ n d) (l : n ≤ m) : OddQ m d := ⟨O.val.mono (Nat.le_refl _) (by omega) (by omega), O.ns⟩
abbrev odds62 : List SD := [.non, .bl true, .bl false, .int 0, .int (-1), .int (10 ^ Int.toNat 30), .tup [], .lst [], .dic [], .tup [.str "a"], .lst [.str "a"], .dic [(.inr "a", .str "b")], .tup [.str "a", .tup []]]
theorem sa62 : Val 0 0 1 (.str "a") := (Val.str (x := "a") (by decide +kernel)).mono (Nat.le_refl _) (Nat.le_refl _) (by decide +kernel)
theorem sb62 : Val 0 0 1 (.str "b") := (Val.str (x := "b") (by decide +kernel)).mono (Nat.le_refl _) (Nat.le_refl _) (by decide +kernel)
theorem nil62 : Val 0 1 0 (.tup []) := Val.tup ValL.nil
theorem big62 : Val (10 ^ 30) 0 0 (.int (10 ^ Int.toNat 30)) := Val.int (by decide +kernel)
theorem odd_base {d : SD} (h : d ∈ odds62) : OddQ 0 d := by
  simp only [List.mem_cons, List.not_mem_nil, or_false] at h
  have up : ∀ {D B : Nat} {d : SD}, Val 0 D B d → D ≤ 2 → B ≤ 20 → Val (10 ^ 30) (2 + 0) (20 + 10 * 0) d := fun v a b => v.mono (Nat.zero_le _) (by omega) (by omega)
  rcases h with rfl | rfl | rfl | rfl | rfl | rfl | rfl | rfl | rfl | rfl | rfl | rfl | rfl
  · exact ⟨up Val.non (by omega) (by omega), rfl⟩
  · exact ⟨up (Val.bl true) (by omega) (by omega), rfl⟩
  · exact ⟨up (Val.bl false) (by omega) (by omega), rfl⟩
  · exact ⟨up (Val.int (m := 0) (by decide)) (by omega) (by omega), rfl⟩
  · exact ⟨up (Val.int (m := 0) (by decide)) (by omega) (by omega), rfl⟩
  · exact ⟨big62.mono (Nat.le_refl _) (by omega) (by omega), rfl⟩
  · exact ⟨up nil62 (by omega) (by omega), rfl⟩
  · exact ⟨up (Val.lst ValL.nil) (by omega) (by omega), rfl⟩
  · exact ⟨up Val.dic (by omega) (by omega), rfl⟩
  · exact ⟨up (Val.tup (ValL.one sa62)) (by omega) (by omega), rfl⟩
  · exact ⟨up (Val.lst (ValL.one sa62)) (by omega) (by omega), rfl⟩
  · exact ⟨up (Val.dic1 (k := "a") (by decide +kernel) sb62) (by omega) (by decide +kernel), rfl⟩
  · exact ⟨up (Val.tup (ValL.cons (sa62.mono (Nat.le_refl _) (show 0 ≤ 1 by omega) (Nat.le_refl _)) (ValL.one nil62))) (by omega) (by omega), rfl⟩
theorem odd_step {n : Nat} {d e : SD} (O : OddQ n d) (h : e ∈ ([.tup [d], .lst [d], .dic [(.inr "a", d)], .tup [d, .str "a"]] : List SD)) : OddQ (n + 1) e := by
  simp only [List.mem_cons, List.not_mem_nil, or_false] at h
  have up : ∀ {D B : Nat} {d : SD}, Val (10 ^ 30) D B d → D ≤ 3 + n → B ≤ 30 + 10 * n → Val (10 ^ 30) (2 + (n + 1)) (20 + 10 * (n + 1)) d := fun v a b => v.mono (Nat.le_refl _) (by omega) (by omega)
  rcases h with rfl | rfl | rfl | rfl
  · exact ⟨up (Val.tup (ValL.one O.val)) (by omega) (by omega), rfl⟩
  · exact ⟨up (Val.lst (ValL.one O.val)) (by omega) (by omega), rfl⟩
  · have a1 : ("a" : Str).cps.size = 1 := by decide +kernel
    exact ⟨up (Val.dic1 (k := "a") (by decide +kernel) O.val) (by omega) (by rw [a1]; omega), rfl⟩
  · exact ⟨up (Val.tup (ValL.cons O.val (ValL.one (sa62.mono (Nat.zero_le _) (Nat.zero_le _) (Nat.le_refl _))))) (by omega) (by omega), rfl⟩
def sp__law_odd : DSp := fun ds μ Q _ => ∃ (h : Addr) (T : Nat), ds = [.ref h] ∧ HandAt μ h T ∧ T ≤ 90000000 ∧ ∀ d μ', OddQ 48 d → HandAt μ' h (T + 60) → LeX h μ μ' → Q d μ'
theorem len__law_odd : ∀ ds μ Q E, sp__law_odd ds μ Q E → ds.length = 1 := by rintro ds μ Q E ⟨h, T, rfl, _⟩; rfl
def t__law_odd : DTS := (dSeq (dSet (dCall sp__law_of [] (dCons (dVar 0) (dCons (dLst (dCons (dC .non) (dCons (dC (.bl true)) (dCons (dC (.bl false)) (dCons (dC (.int 0)) (dCons (dUnI (fun i => -i) (dC (.int 1))) (dCons (dOp dPow (dC (.int 10)) (dC (.int 30))) (dCons (dTup dNil) (dCons (dLst dNil) (dCons dDict0S (dCons (dTup (dCons (dC (.str "a")) dNil)) (dCons (dLst (dCons (dC (.str "a")) dNil)) (dCons (dDispS [((dC (.str "a")), (dC (.str "b")))]) (dCons (dTup (dCons (dC (.str "a")) (dCons (dTup dNil) dNil))) dNil)))))))))))))) dNil))) 1)
    (dSeq (dFor (jRng1 (dCons (dCall sp__law_of [] (dCons (dVar 0) (dCons (dLst (dCons (dC (.int 0)) (dCons (dC (.int 0)) (dCons (dC (.int 1)) (dCons (dC (.int 2)) (dCons (dC (.int 48)) dNil)))))) dNil))) dNil)) (hName 2) (dSet (dCall sp__law_of [] (dCons (dVar 0) (dCons (dLst (dCons (dTup (dCons (dVar 1) dNil)) (dCons (dLst (dCons (dVar 1) dNil)) (dCons (dDispS [((dC (.str "a")), (dVar 1))]) (dCons (dTup (dCons (dVar 1) (dCons (dC (.str "a")) dNil))) dNil))))) dNil))) 1))
    (dRet (dVar 1))))
theorem rng62 {j : Nat} {d : SD} (h : ([.int 0, .int 0, .int 1, .int 2, .int 48] : List SD)[j]? = some d) : ∃ c : Nat, d = .int (c : Nat) ∧ c ≤ 48 := by
  have m := List.mem_of_getElem? h
  simp only [List.mem_cons, List.not_mem_nil, or_false] at m
  rcases m with rfl | rfl | rfl | rfl | rfl
  · exact ⟨0, rfl, by decide⟩
  · exact ⟨0, rfl, by decide⟩
  · exact ⟨1, rfl, by decide⟩
  · exact ⟨2, rfl, by decide⟩
  · exact ⟨48, rfl, by decide⟩
abbrev rngs62 : List SD := [.int 0, .int 0, .int 1, .int 2, .int 48]
theorem disp62 {ρ : Rho} {μ : Mu} {tv : DTE} {Q : SD → Mu → Prop} (h : tv ρ μ fun y μ1 => Q (.dic [(.inr "a", y)]) μ1) : dDispS [((dC (.str "a")), tv)] ρ μ Q := h
theorem read__law_odd : ∀ ds μ Q E, sp__law_odd ds μ Q E → t__law_odd { nx := fun _ μ' => Q .non μ', rt := Q } (begin_ ["_law_hand_here", "_law_found", "_law_turn"] ds) μ := by
  rintro ds μ Q E ⟨h, T, rfl, H, hT, q⟩
  unfold t__law_odd dFor
  refine r_var rfl ?_
  refine i_pow (n := 30) (pow_ok (n := 30) (by decide) (by decide)) ?_
  refine ⟨Nat.zero_le _, ?_⟩
  refine ⟨Nat.zero_le _, ?_⟩
  refine ⟨(by show 1 ≤ sizeLine; decide), ?_⟩
  refine ⟨(by show 1 ≤ sizeLine; decide), ?_⟩
  refine disp62 ?_
  refine ⟨Nat.zero_le _, ?_⟩
  refine ⟨(by show 2 ≤ sizeLine; decide), ?_⟩
  refine ⟨(by show 13 ≤ sizeLine; decide), ?_⟩
  refine ⟨h, _, odds62, T, rfl, .inl rfl, (fun z => by cases z), by decide, by omega, H, fun j d0 μ1 hj H1 l1 => ?_⟩
  have O0 := odd_base (List.mem_of_getElem? hj)
  dsimp only
  refine r_var rfl ?_
  refine ⟨(by show 5 ≤ sizeLine; decide), ?_⟩
  refine ⟨h, _, rngs62, _, rfl, .inl rfl, (fun z => by cases z), by decide, by omega, H1, fun j2 nd μ2 hj2 H2 l2 => ?_⟩
  obtain ⟨c, rfl, hc⟩ := rng62 hj2
  refine ⟨⟨by omega, by omega⟩, fun i ρ μ' => ∃ d a3, ρ = [some (.ref h), some d, a3] ∧ OddQ i d ∧ HandAt μ' h (T + 2 + i) ∧ LeX h μ μ', ⟨d0, none, rfl, O0, H2, l1.trans l2⟩, fun _ _ _ _ _ => trivial, ?_, ?_⟩
  · rintro i nd ρ μ3 hd ⟨d, a3, rfl, O, H3, l3⟩
    have hi : i < c := by
      have := (List.getElem?_eq_some_iff.mp hd).1
      simpa using this
    dsimp only
    refine r_var rfl ?_
    refine r_var rfl ?_
    refine ⟨(by show 1 ≤ sizeLine; decide), ?_⟩
    refine r_var rfl ?_
    refine ⟨(by show 1 ≤ sizeLine; decide), ?_⟩
    refine disp62 ?_
    refine r_var rfl ?_
    refine r_var rfl ?_
    refine ⟨(by show 2 ≤ sizeLine; decide), ?_⟩
    refine ⟨(by show 4 ≤ sizeLine; decide), ?_⟩
    refine ⟨h, _, [.tup [d], .lst [d], .dic [(.inr "a", d)], .tup [d, .str "a"]], _, rfl, .inl rfl, (fun z => by cases z), (by show 4 ≤ 1000000; decide), by omega, H3, fun j4 d4 μ4 hj4 H4 l4 => ?_⟩
    exact ⟨d4, _, rfl, odd_step O (List.mem_of_getElem? hj4), H4, l3.trans l4⟩
  · rintro ρ μ3 ⟨d, a3, rfl, O, H3, l3⟩
    rw [List.length_map, List.length_range] at O H3
    dsimp only
    refine r_var rfl ?_
    exact q d μ3 (O.mono (by omega)) (H3.mono (by omega)) l3
theorem repr62 {d : SD} {μ : Mu} {Q : SD → Mu → Prop} (O : OddQ 48 d) (q : Q (.str (shw d)) μ) : drReprV [d] μ Q := by
  have nr : ∀ b, d ≠ .ref b := fun b z => by have := O.val.ok; rw [z, okV] at this; exact this
  exact r_reprV O.val nr rfl (Nat.le_refl _) (by omega) (by omega) q
def sp__law_line : DSp := fun ds μ Q _ => ∃ (o a p : Addr) (t : MA.T) (d : SD), ds = [.ref o, d] ∧ DkAt μ o a p ⟨t, [], [], 0⟩ [] ∧ TrF t ∧ OddQ 48 d ∧ Q (.str (shw d)) μ
theorem len__law_line : ∀ ds μ Q E, sp__law_line ds μ Q E → ds.length = 2 := by rintro ds μ Q E ⟨o, a, p, t, d, rfl, _⟩; rfl
def t__law_line : DTS := (dSeq (dSet (dC .non) 2)
    (dSeq (dTryM (fun Ex => (dMethX "Desk" "say" sp_Desk_say Ex (dVar 0) (dCons (dVar 1) dNil))) (kX xnames "KeyedError") 3 2)
    (dSeq (dIfS (dOr (dNot (dTest (dIsX (kX xnames "BadLine") (dVar 2)))) (dTest (dIsXT [kX xnames "BadText", kX xnames "BadTree"] (dVar 2)))) (dRet (dC (.str "no BadLine alone"))) dNext)
    (dRet (dCB drReprV (dCons (dFld "line" (dVar 2)) dNil))))))
theorem read__law_line : ∀ ds μ Q E, sp__law_line ds μ Q E → t__law_line { nx := fun _ μ' => Q .non μ', rt := Q } (begin_ ["_law_desk", "_law_value", "_law_caught", "error"] ds) μ := by
  rintro ds μ Q E ⟨o, a, p, t, d, rfl, D, K, O, q⟩
  unfold t__law_line
  refine ⟨(by show 3 < 4; decide), ?_⟩
  refine r_var rfl ?_
  refine meth_ok D.at_ rfl ?_
  refine r_var rfl ?_
  refine ⟨o, a, p, t, d, _, rfl, D, K, O.val.ok, .inl ⟨O.ns, ?_⟩⟩
  refine ⟨by decide +kernel, ?_⟩
  dsimp only [List.set_cons_zero, List.set_cons_succ]
  change dSeq _ _ _ [some (.ref o), some d, some (.exc "BadLine" [("line", d)]), none] _
  refine isX_61 (x := "BadLine") (b := true) rfl (by decide +kernel) ?_
  refine ifF rfl ?_
  refine r_var rfl ?_
  unfold DS.isQT
  simp only [show anyX [kX xnames "BadText", kX xnames "BadTree"] "BadLine" = some false by decide +kernel]
  refine ifF rfl ?_
  simp only [dNext]
  refine r_var rfl ?_
  simp only [show ([(("line" : Str), d)] : List (Str × SD)).lookup "line" = some d from rfl]
  exact repr62 O q
end LK
namespace LK
open PySem PySem.Spec PyProof.Rows L2 DS MA
def tAB : MA.T := .node "a" [.node "b" []]
theorem tAB_trf : TrF tAB := by
  have e : pre tAB = [("a" : Str), "b"] := rfl
  refine ⟨by rw [e]; decide +kernel, fun k hk => ?_, by decide +kernel, by rw [e]; decide⟩
  rw [e] at hk
  simp only [List.mem_cons, List.not_mem_nil, or_false] at hk
  rcases hk with rfl | rfl
  · exact ⟨⟨by decide +kernel, by decide +kernel⟩, by decide +kernel, by decide +kernel, by decide +kernel⟩
  · exact ⟨⟨by decide +kernel, by decide +kernel⟩, by decide +kernel, by decide +kernel, by decide +kernel⟩
theorem text_AB : textT 0 tAB = "a\n  b" := by decide +kernel
theorem read_AB : ∃ s, rd RS.nil 0 (Txt.split "a\n  b" "\n") = .ok s ∧ s.tree = tAB := by
  have K := tAB_trf
  have kT : ∀ k ∈ pre tAB, keyT k = true := fun k hk => keyT_of (K.low k hk).2
  obtain ⟨s, er, et, _⟩ := rd_tree K.nd kT K.tl K.dp
  rw [← text_AB, split_text kT]
  exact ⟨s, er, et⟩
theorem ask_tree : Txt.join " / " (Txt.split (textT 0 tAB) "\n") = "a /   b" := by decide +kernel
theorem ask_size : ((toString ((pre tAB).length : Int) : String) : Str) = "2" := by decide +kernel
def badAt : RR → Nat → Bool
  | .bad j, k => j == k
  | _, _ => false
theorem bad_of {r : RR} {k : Nat} (h : badAt r k = true) : r = .bad k := by
  cases r with
  | bad j => rw [show j = k from by simpa [badAt] using h]
  | ok s => cases h
abbrev bads62 : List (Str × Nat) := [("", 0), ("a\nb", 1), ("a\n  b\n  b", 2), (" a", 0), ("a\n", 1)]
theorem bads_ok : ∀ x ∈ bads62, rd RS.nil 0 (Txt.split x.1 "\n") = .bad x.2 ∧ PyData.strOk x.1 = true ∧ x.1.length ≤ 100 ∧ x.2 ≤ 2 := by
  have h : (bads62.all fun x => badAt (rd RS.nil 0 (Txt.split x.1 "\n")) x.2 && (PyData.strOk x.1 && (decide (x.1.length ≤ 100) && decide (x.2 ≤ 2)))) = true := by decide +kernel
  intro x hx
  have := List.all_eq_true.mp h x hx
  rw [Bool.and_eq_true, Bool.and_eq_true, Bool.and_eq_true] at this
  exact ⟨bad_of this.1, this.2.1, of_decide_eq_true this.2.2.1, of_decide_eq_true this.2.2.2⟩
theorem good_line {j : Nat} (h : j ≤ 2) : ∃ p, Good (.tup [.str "line", .int (j : Nat)]) p 2 100 := by
  have : j = 0 ∨ j = 1 ∨ j = 2 := by omega
  have st : Good (.str "line") (.str "line") 0 40 := (Good.str (x := "line") (by decide +kernel)).mono (Nat.le_refl _) (by decide +kernel)
  have it : ∀ i : Nat, i ≤ 2 → Good (.int (i : Nat)) (.int (i : Nat)) 0 40 := fun i hi => by
    have : i = 0 ∨ i = 1 ∨ i = 2 := by omega
    rcases this with rfl | rfl | rfl <;> exact ⟨rfl, by decide, by decide, by decide +kernel, by decide +kernel, by decide +kernel⟩
  exact ⟨_, (Good.tup (GoodL.cons st (GoodL.cons (it j h) (GoodL.nil.mono (Nat.zero_le _) (Nat.le_refl _))))).mono (by omega) (by omega)⟩
theorem eq_goodQ {xs : List SD} {p : PyData} {D B : Nat} {μ : Mu} {neg : Bool} {Q : SD → Mu → Prop} (g : Good (.tup xs) p D B) (h : D ≤ 64) (q : Q (.bl (neg != true)) μ) : dEq neg (.tup xs) (.tup xs) μ Q := by
  have e : eqD μ (.tup xs) (.tup xs) = some true := by
    unfold eqD
    simp only [g.notref μ]
    rw [if_pos ⟨g.shaped h, g.shaped h⟩, PySem.SeqAt.eqv_refl p g.cl]
  unfold dEq
  rw [e]; exact q
theorem eq_refQ {a : Addr} {xs : List SD} {ps : List PyData} {D B : Nat} {μ : Mu} {neg : Bool} {Q : SD → Mu → Prop} (m : μ a = some (.lst xs)) (g : GoodL xs ps D B) (h : D < 64) (q : Q (.bl (neg != true)) μ) : dEq neg (.ref a) (.lst xs) μ Q := by
  have gl := Good.lst g
  have e1 : pd μ (.ref a) = some (.list ps) := by simp [pd, m, g.e]
  have e2 : pd μ (.lst xs) = some (.list ps) := gl.notref μ
  have e : eqD μ (.ref a) (.lst xs) = some true := by
    unfold eqD
    simp only [e1, e2]
    rw [if_pos ⟨gl.shaped (by omega), gl.shaped (by omega)⟩, PySem.SeqAt.eqv_refl _ gl.cl]
  unfold dEq
  rw [e]; exact q
def TabL (μ : Mu) : Prop := ∃ P, μ P = some (.tab P "law" "law.<locals>.<lambda>")
theorem TabL.le {μ μ' : Mu} (L : TabL μ) (l : Le μ μ') : TabL μ' := let ⟨P, e⟩ := L; ⟨P, l _ _ e⟩
theorem TabL.lex {μ μ' : Mu} {h : Addr} {T : Nat} (L : TabL μ) (H : HandAt μ h T) (l : LeX h μ μ') : TabL μ' := by
  obtain ⟨P, e⟩ := L
  refine ⟨P, l _ _ (fun z => ?_) e⟩
  obtain ⟨g, m, t, e2, _⟩ := H.ex
  rw [z, e2] at e; cases e
theorem TabL.up {μ : Mu} {p : Addr} {xs : List SD} {m : MO} (L : TabL μ) (h : μ p = some (.lst xs)) : TabL (up μ p m) := by
  obtain ⟨P, e⟩ := L
  refine ⟨P, ?_⟩
  rw [up_ne]; exact e
  rintro rfl; rw [h] at e; cases e
theorem DkAt.lex {μ μ' : Mu} {o a p h : Addr} {t : MA.T} {T : Nat} (D : DkAt μ o a p ⟨t, [], [], 0⟩ []) (H : HandAt μ h T) (l : LeX h μ μ') : DkAt μ' o a p ⟨t, [], [], 0⟩ [] := by
  obtain ⟨g, m, tt, e2, _⟩ := H.ex
  refine ⟨l _ _ (fun z => ?_) D.at_, ⟨l _ _ (fun z => ?_) D.V.at_, l _ _ (fun z => ?_) D.V.pa, D.V.len⟩⟩
  · have := D.at_; rw [z, e2] at this; cases this
  · have := D.V.at_; rw [z, e2] at this; cases this
  · have := D.V.pa; rw [z, e2] at this; cases this
theorem DkAt.up {μ : Mu} {o a p q : Addr} {t : MA.T} {m : MO} (D : DkAt μ o a p ⟨t, [], [], 0⟩ []) (h : q ≠ o ∧ q ≠ a ∧ q ≠ p) : DkAt (up μ q m) o a p ⟨t, [], [], 0⟩ [] :=
  ⟨by rw [up_ne (Ne.symm h.1)]; exact D.at_, ⟨by rw [up_ne (Ne.symm h.2.1)]; exact D.V.at_, by rw [up_ne (Ne.symm h.2.2)]; exact D.V.pa, D.V.len⟩⟩
theorem clip62 (ns : List Int) : ∃ r : Nat, 1 ≤ r ∧ r ≤ 3 ∧ (if (if ((ns.map SD.int).length : Int) < 3 then ((ns.map SD.int).length : Int) else 3) > 1 then (if ((ns.map SD.int).length : Int) < 3 then ((ns.map SD.int).length : Int) else 3) else 1) = (r : Int) := by
  refine ⟨(if (if ((ns.map SD.int).length : Int) < 3 then ((ns.map SD.int).length : Int) else 3) > 1 then (if ((ns.map SD.int).length : Int) < 3 then ((ns.map SD.int).length : Int) else 3) else 1).toNat, ?_, ?_, ?_⟩ <;> split <;> split <;> omega
theorem max62 {μ : Mu} {Q : SD → Mu → Prop} {m n : Int} (q : Q (.int (if n > m then n else m)) μ) : drI2 (fun i j => if j > i then j else i) [.int m, .int n] μ Q := q
theorem len62 {xs : List SD} {μ : Mu} {Q : SD → Mu → Prop} (q : Q (.int (xs.length : Nat)) μ) : drLen [.rol xs] μ Q := q
theorem heard62 {μ : Mu} {Q : SD → Mu → Prop} {th : DTH} (q : ∀ (Q1 : SD → Mu → Prop) (E1 : DXX), (∀ (d : SD) (μ1 : Mu), Q (.tup [.str "line", d]) μ1 → E1 "BadText" [("line", d)] μ1) → th μ Q1 E1) : sp__law_heard th μ Q := fun Q1 E1 _ h2 => q Q1 E1 h2
abbrev line0 : SD := .tup [.str "line", .int 0]
/-- one odd value: all is as it is due -/
theorem odd_turn {h o a p : Addr} {T : Nat} {x0 x1 x2 x3 x6 x8 x9 : Option SD} {d : SD} {μ : Mu} {D0 : DEnds} (O : OddQ 48 d) (L : TabL μ) (D : DkAt μ o a p ⟨tAB, [], [], 0⟩ []) (H : HandAt μ h T)
    (kont : ∀ (μ' : Mu) (y8 y9 : Option SD), TabL μ' → DkAt μ' o a p ⟨tAB, [], [], 0⟩ [] → HandAt μ' h T → D0.nx [x0, x1, x2, x3, some (.ref h), some (.ref o), x6, some d, y8, y9] μ') :
    (dSeq (dSet (dCB drReprV (dCons (dVar 7) dNil)) 8)
    (dSeq (dSet (dLstM (dCons (dLam "law" "law.<locals>.<lambda>" sp__law_heard (fun Ex => (dCallX sp_read_tree [] Ex (dCons (dVar 7) dNil)))) dNil)) 9)
    (dSeq (dDrop (dLM dmAppend (dVar 9) (dCons (dLam "law" "law.<locals>.<lambda>" sp__law_heard (fun Ex => (dCallX sp_read_operations [] Ex (dCons (dVar 7) dNil)))) dNil)))
    (dSeq (dDrop (dLM dmAppend (dVar 9) (dCons (dLam "law" "law.<locals>.<lambda>" sp__law_heard (fun Ex => (dMkCX "Desk" sp_Desk_init Ex (dCons (dVar 7) dNil)))) dNil)))
    (dIfS (dOr (dTest (dOp (dEq true) (dVar 9) (dOp dMul (dLst (dCons (dTup (dCons (dC (.str "line")) (dCons (dC (.int 0)) dNil))) dNil)) (dC (.int 3))))) (dOr (dTest (dOp (dEq true) (dCall sp__law_line [] (dCons (dVar 5) (dCons (dVar 7) dNil))) (dVar 8))) (dTest (dOp (dEq true) (dCB drReprV (dCons (dVar 7) dNil)) (dVar 8))))) (dRet (dC (.bl false))) dNext))))) D0 [x0, x1, x2, x3, some (.ref h), some (.ref o), x6, some d, x8, x9] μ := by
  have nr : ∀ b, d ≠ .ref b := fun b z => by have := O.val.ok; rw [z, okV] at this; exact this
  have wt : wtV d ≤ 100000 := Nat.le_trans O.val.wt (by omega)
  refine r_var rfl ?_
  refine repr62 O ?_
  dsimp only
  change dSeq _ _ _ [x0, x1, x2, x3, some (.ref h), some (.ref o), x6, some d, some (.str (shw d)), x9] _
  obtain ⟨P, eP⟩ := id L
  refine ⟨P, eP, heard62 fun Q1 E1 g => ?_⟩
  refine r_var rfl ?_
  refine ⟨d, _, rfl, O.val.ok, wt, ?_⟩
  refine lookT_ns O.ns fun μ1 l1 => g _ _ ?_
  refine ⟨(by show 1 ≤ sizeLine; decide), fun q hq => ?_⟩
  have L1 := L.le l1
  have D1 := D.le l1
  have H1 := H.le l1
  have qn : ∀ {b : Addr} {m : MO}, μ1 b = some m → q ≠ b := fun {b m} e z => by rw [z, e] at hq; cases hq
  have qd : q ≠ o ∧ q ≠ a ∧ q ≠ p := ⟨qn D1.at_, qn D1.V.at_, qn D1.V.pa⟩
  have qh : q ≠ h := fun z => H1.ne hq z.symm
  have M2 : up μ1 q (.lst [line0]) q = some (.lst [line0]) := up_same
  have L2 : TabL (up μ1 q (.lst [line0])) := L1.le ((Le.refl μ1).up hq)
  have D2 := D1.up (m := .lst [line0]) qd
  have H2 := H1.up (m := .lst [line0]) (Ne.symm qh)
  generalize up μ1 q (.lst [line0]) = μ2 at M2 L2 D2 H2 ⊢
  dsimp only
  change dSeq _ _ _ [x0, x1, x2, x3, some (.ref h), some (.ref o), x6, some d, some (.str (shw d)), some (.ref q)] _
  refine r_var rfl ⟨isSome_ref M2, ?_⟩
  obtain ⟨P2, eP2⟩ := id L2
  refine ⟨P2, eP2, heard62 fun Q1 E1 g => ?_⟩
  refine r_var rfl ?_
  refine ⟨d, _, rfl, O.val.ok, O.ns, g _ _ ?_⟩
  refine dm_append M2 (lt_line (m := 100) (by simp) (by omega)) ?_
  have M3 : up μ2 q (.lst ([line0] ++ [line0])) q = some (.lst [line0, line0]) := up_same
  have L3 : TabL (up μ2 q (.lst ([line0] ++ [line0]))) := L2.up M2
  have D3 := D2.up (m := .lst ([line0] ++ [line0])) qd
  have H3 := H2.up (m := .lst ([line0] ++ [line0])) (Ne.symm qh)
  generalize up μ2 q (.lst ([line0] ++ [line0])) = μ3 at M3 L3 D3 H3 ⊢
  dsimp only
  change dSeq _ _ _ [x0, x1, x2, x3, some (.ref h), some (.ref o), x6, some d, some (.str (shw d)), some (.ref q)] _
  refine r_var rfl ⟨isSome_ref M3, ?_⟩
  obtain ⟨P3, eP3⟩ := id L3
  refine ⟨P3, eP3, heard62 fun Q1 E1 g => ?_⟩
  refine r_var rfl ?_
  refine fun o' ho' => ⟨o', d, _, rfl, up_same, O.val.ok, wt, lookD_ns O.ns fun μ4 l4 => g _ _ ?_⟩
  have l34 : Le μ3 μ4 := ((Le.refl μ3).up ho').trans l4
  have M4 := l34 _ _ M3
  refine dm_append M4 (lt_line (m := 100) (by simp) (by omega)) ?_
  have M5 : up μ4 q (.lst ([line0, line0] ++ [line0])) q = some (.lst [line0, line0, line0]) := up_same
  have L5 : TabL (up μ4 q (.lst ([line0, line0] ++ [line0]))) := (L3.le l34).up M4
  have D5 := (D3.le l34).up (m := .lst ([line0, line0] ++ [line0])) qd
  have H5 := (H3.le l34).up (m := .lst ([line0, line0] ++ [line0])) (Ne.symm qh)
  generalize up μ4 q (.lst ([line0, line0] ++ [line0])) = μ5 at M5 L5 D5 H5 ⊢
  dsimp only
  change dIfS _ _ _ _ [x0, x1, x2, x3, some (.ref h), some (.ref o), x6, some d, some (.str (shw d)), some (.ref q)] _
  refine r_var rfl ?_
  refine ⟨(by show 2 ≤ sizeLine; decide), ?_⟩
  refine ⟨(by show 1 ≤ sizeLine; decide), ?_⟩
  refine l_mul ⟨by decide, by decide, by rw [sizeLine_eq]; decide⟩ ?_
  obtain ⟨pg, gg⟩ := good_line (j := 0) (by omega)
  have g3 := GoodL.cons gg (GoodL.cons gg (GoodL.cons gg (GoodL.nil.mono (Nat.zero_le 2) (Nat.le_refl 0))))
  refine eq_refQ (xs := [line0, line0, line0]) M5 g3 (by omega) ?_
  refine ifF rfl ?_
  refine r_var rfl ?_
  refine r_var rfl ?_
  refine ⟨o, a, p, tAB, d, rfl, D5, tAB_trf, O, ?_⟩
  refine r_var rfl ?_
  refine eq_ss ?_
  rw [decide_eq_true rfl]
  refine ifF rfl ?_
  refine r_var rfl ?_
  refine repr62 O ?_
  refine r_var rfl ?_
  refine eq_ss ?_
  rw [decide_eq_true rfl]
  refine ifF rfl ?_
  simp only [dNext]
  exact kont μ5 _ _ L5 D5 H5
def sp_law : DSp := fun ds μ Q _ => ∃ ns : List Int, ds = [.rol (ns.map SD.int)] ∧ ns.length ≤ 63 ∧ TabL μ ∧ ∀ μ', Q (.bl true) μ'
theorem law_takes {ns : List Int} {T : Addr} (hl : ns.length ≤ 63) : ∀ μ, μ T = some (.tab T "law" "law.<locals>.<lambda>") → sp_law [.rol (ns.map SD.int)] μ (fun d _ => d = .bl true) (fun _ _ _ => False) := fun μ h => ⟨ns, rfl, hl, ⟨T, h⟩, fun _ => rfl⟩
theorem len_law : ∀ ds μ Q E, sp_law ds μ Q E → ds.length = 1 := by rintro ds μ Q E ⟨ns, rfl, _⟩; rfl
def t_law : DTS := (dSeq (dFor (jRng1 (dCons (dCB (drI2 fun i j => if j > i then j else i) (dCons (dC (.int 1)) (dCons (dCB (drI2 fun i j => if j < i then j else i) (dCons (dC (.int 3)) (dCons (dCB drLen (dCons (dVar 0) dNil)) dNil))) dNil))) dNil)) (hName 1) (dSeq (dPar 4 5 (dCons (dCall sp__law_hand [] (dCons (dVar 0) (dCons (dVar 1) dNil))) (dCons (dMkC "Desk" (calmSp sp_Desk_init) (dCons (dC (.str "a\n  b")) dNil)) dNil)))
    (dSeq (dFor (jRng1 (dCons (dC (.int 12)) dNil)) (hName 6) (dSeq (dSet (dCall sp__law_odd [] (dCons (dVar 4) dNil)) 7)
    (dSeq (dSet (dCB drReprV (dCons (dVar 7) dNil)) 8)
    (dSeq (dSet (dLstM (dCons (dLam "law" "law.<locals>.<lambda>" sp__law_heard (fun Ex => (dCallX sp_read_tree [] Ex (dCons (dVar 7) dNil)))) dNil)) 9)
    (dSeq (dDrop (dLM dmAppend (dVar 9) (dCons (dLam "law" "law.<locals>.<lambda>" sp__law_heard (fun Ex => (dCallX sp_read_operations [] Ex (dCons (dVar 7) dNil)))) dNil)))
    (dSeq (dDrop (dLM dmAppend (dVar 9) (dCons (dLam "law" "law.<locals>.<lambda>" sp__law_heard (fun Ex => (dMkCX "Desk" sp_Desk_init Ex (dCons (dVar 7) dNil)))) dNil)))
    (dIfS (dOr (dTest (dOp (dEq true) (dVar 9) (dOp dMul (dLst (dCons (dTup (dCons (dC (.str "line")) (dCons (dC (.int 0)) dNil))) dNil)) (dC (.int 3))))) (dOr (dTest (dOp (dEq true) (dCall sp__law_line [] (dCons (dVar 5) (dCons (dVar 7) dNil))) (dVar 8))) (dTest (dOp (dEq true) (dCB drReprV (dCons (dVar 7) dNil)) (dVar 8))))) (dRet (dC (.bl false))) dNext)))))))
    (dIfS (dOr (dTest (dOp (dEq true) (dMeth "Desk" "say" (calmSp sp_Desk_say) (dVar 5) (dCons (dC (.str "tree")) dNil)) (dC (.str "a /   b")))) (dTest (dOp (dEq true) (dMeth "Desk" "say" (calmSp sp_Desk_say) (dVar 5) (dCons (dC (.str "size")) dNil)) (dC (.str "2"))))) (dRet (dC (.bl false))) dNext))))
    (dSeq (dFor (jSeq (dTup (dCons (dTup (dCons (dC (.str "")) (dCons (dC (.int 0)) dNil))) (dCons (dTup (dCons (dC (.str "a\nb")) (dCons (dC (.int 1)) dNil))) (dCons (dTup (dCons (dC (.str "a\n  b\n  b")) (dCons (dC (.int 2)) dNil))) (dCons (dTup (dCons (dC (.str " a")) (dCons (dC (.int 0)) dNil))) (dCons (dTup (dCons (dC (.str "a\n")) (dCons (dC (.int 1)) dNil))) dNil))))))) (hTup 2 (hCons (hName 2) (hCons (hName 3) hNil))) (dIfS (dTest (dOp (dEq true) (dLam "law" "law.<locals>.<lambda>" sp__law_heard (fun Ex => (dMkCX "Desk" sp_Desk_init Ex (dCons (dVar 2) dNil)))) (dTup (dCons (dC (.str "line")) (dCons (dVar 3) dNil))))) (dRet (dC (.bl false))) dNext))
    (dRet (dC (.bl true)))))
theorem read_law : ∀ ds μ Q E, sp_law ds μ Q E → t_law { nx := fun _ μ' => Q .non μ', rt := Q } (begin_ ["_law_script", "_law_k", "_law_written", "_law_line_here", "_law_hand_here", "_law_desk", "_law_turn", "_law_odd_here", "_law_before", "_law_told"] ds) μ := by
  rintro ds μ Q E ⟨ns, rfl, hl, lam, q0⟩
  unfold t_law
  refine for_seq61 ?_
  refine r_var rfl ?_
  refine len62 ?_
  refine min61 ?_
  refine max62 ?_
  obtain ⟨r0, r1, r3, hre⟩ := clip62 ns
  rw [hre]
  refine ⟨⟨by omega, by omega⟩, fun i ρ μ' => ∃ a1 a2 a3 a4 a5 a6 a7 a8 a9, ρ = [some (.rol (ns.map SD.int)), a1, a2, a3, a4, a5, a6, a7, a8, a9] ∧ TabL μ', ⟨none, none, none, none, none, none, none, none, none, rfl, lam⟩, fun _ _ _ _ _ => trivial, ?_, ?_⟩
  · rintro i d ρ μ1 hd ⟨a1, a2, a3, a4, a5, a6, a7, a8, a9, rfl, lam1⟩
    have hi := (List.getElem?_eq_some_iff.mp hd).1
    simp at hi
    have hdv : d = .int (i : Nat) := by
      rw [List.getElem?_map, List.getElem?_range (by simpa using hi)] at hd
      exact (Option.some.inj hd).symm
    subst hdv
    dsimp only
    refine r_var rfl ?_
    refine r_var rfl ?_
    refine ⟨ns, i, rfl, by omega, fun h μ2 hh0 le2 H2 => ?_⟩
    have lam2 := lam1.le le2
    intro o ho
    obtain ⟨s, er, et⟩ := read_AB
    refine ⟨o, .str "a\n  b", 0, rfl, up_same, by rw [okV]; decide +kernel, by rw [wtV]; decide +kernel, lookD_ok er fun a p μ3 D K fr => ⟨rfl, ?_⟩⟩
    rw [et] at D
    have le3 : Le μ2 μ3 := fun x m e => by
      have n : x ≠ o := fun z => by rw [z, ho] at e; cases e
      exact fr x m n (by rw [up_ne n]; exact e)
    have lam3 := lam2.le le3
    have H3 := H2.le le3
    dsimp only [dNil]
    change dSeq _ _ _ [some (.rol (ns.map SD.int)), some (.int (i : Nat)), a2, a3, some (.ref h), some (.ref o), a6, a7, a8, a9] _
    refine for_seq61 ?_
    refine ⟨⟨by omega, by omega⟩, fun n ρ μ' => ∃ b6 b7 b8 b9, ρ = [some (.rol (ns.map SD.int)), some (.int (i : Nat)), a2, a3, some (.ref h), some (.ref o), b6, b7, b8, b9] ∧ TabL μ' ∧ DkAt μ' o a p ⟨tAB, [], [], 0⟩ [] ∧ HandAt μ' h (100 * n), ⟨_, _, _, _, rfl, lam3, D, H3.mono (by omega)⟩, fun _ _ _ _ _ => trivial, ?_, ?_⟩
    · rintro n dn ρ μ4 hdn ⟨b6, b7, b8, b9, rfl, L4, D4, H4⟩
      have hn : n < 12 := by
        have := (List.getElem?_eq_some_iff.mp hdn).1
        simpa using this
      dsimp only
      change dSeq _ _ _ [some (.rol (ns.map SD.int)), some (.int (i : Nat)), a2, a3, some (.ref h), some (.ref o), some dn, b7, b8, b9] _
      refine r_var rfl ?_
      refine ⟨h, _, rfl, H4, by omega, fun d μ5 O H5 l5 => ?_⟩
      dsimp only
      refine odd_turn O (L4.lex H4 l5) (D4.lex H4 l5) H5 fun μ6 y8 y9 L6 D6 H6 => ?_
      exact ⟨_, _, _, _, rfl, L6, D6, H6.mono (by omega)⟩
    · rintro ρ μ4 ⟨b6, b7, b8, b9, rfl, L4, D4, H4⟩
      refine r_var rfl ?_
      refine meth_ok D4.at_ rfl ?_
      refine ⟨o, a, p, tAB, .str "tree", 0, rfl, D4, tAB_trf, by rw [okV]; decide +kernel, .inr (.inl ⟨rfl, fun μ5 l5 => ?_⟩)⟩
      rw [ask_tree]
      refine eq_ss ?_
      rw [decide_eq_true rfl]
      refine ifF rfl ?_
      refine r_var rfl ?_
      refine meth_ok (D4.le l5).at_ rfl ?_
      refine ⟨o, a, p, tAB, .str "size", 0, rfl, D4.le l5, tAB_trf, by rw [okV]; decide +kernel, .inr (.inr ⟨rfl, fun μ6 l6 => ?_⟩)⟩
      rw [ask_size]
      refine eq_ss ?_
      rw [decide_eq_true rfl]
      refine ifF rfl ?_
      simp only [dNext]
      exact ⟨_, _, _, _, _, _, _, _, _, rfl, (L4.le l5).le l6⟩
  · rintro ρ μ1 ⟨a1, a2, a3, a4, a5, a6, a7, a8, a9, rfl, lam1⟩
    refine for_seq61 ?_
    refine jSeq_at (x := .tup (bads62.map fun x => .tup [.str x.1, .int (x.2 : Nat)])) (xs := bads62.map fun x => .tup [.str x.1, .int (x.2 : Nat)]) (fun R' hr => ?_) (fun z e => by cases e) rfl ?_
    · refine ⟨(by show 2 ≤ sizeLine; decide), ?_⟩
      refine ⟨(by show 2 ≤ sizeLine; decide), ?_⟩
      refine ⟨(by show 2 ≤ sizeLine; decide), ?_⟩
      refine ⟨(by show 2 ≤ sizeLine; decide), ?_⟩
      refine ⟨(by show 2 ≤ sizeLine; decide), ?_⟩
      exact ⟨(by show 5 ≤ sizeLine; decide), hr⟩
    refine ⟨fun n ρ μ' => ∃ a1 a2 a3 a4 a5 a6 a7 a8 a9, ρ = [some (.rol (ns.map SD.int)), a1, a2, a3, a4, a5, a6, a7, a8, a9] ∧ TabL μ', ⟨_, _, _, _, _, _, _, _, _, rfl, lam1⟩, fun _ _ _ _ _ => rfl, ?_, ?_⟩
    · rintro n d ρ μ2 hd ⟨a1, a2, a3, a4, a5, a6, a7, a8, a9, rfl, L2⟩
      obtain ⟨x, hx, rfl⟩ := List.mem_map.mp (List.mem_of_getElem? hd)
      obtain ⟨b1, b2, b3, b4⟩ := bads_ok x hx
      refine ⟨rfl, rfl, ?_⟩
      dsimp only
      change dIfS _ _ _ _ [some (.rol (ns.map SD.int)), a1, some (.str x.1), some (.int (x.2 : Nat)), a4, a5, a6, a7, a8, a9] _
      obtain ⟨P, eP⟩ := id L2
      refine ⟨P, eP, heard62 fun Q1 E1 g => ?_⟩
      refine r_var rfl ?_
      refine fun o' ho' => ⟨o', .str x.1, 0, rfl, up_same, by rw [okV]; exact b2, Nat.le_trans (show wtV (.str x.1) ≤ 100 from b3) (by omega), lookD_bad b1 fun μ3 l3 => g _ _ ?_⟩
      refine r_var rfl ?_
      refine ⟨(by show 2 ≤ sizeLine; decide), ?_⟩
      obtain ⟨pg, g2⟩ := good_line b4
      refine eq_goodQ g2 (by omega) ?_
      refine ifF rfl ?_
      simp only [dNext]
      exact ⟨_, _, _, _, _, _, _, _, _, rfl, L2.le (((Le.refl μ2).up ho').trans l3)⟩
    · rintro ρ μ2 ⟨a1, a2, a3, a4, a5, a6, a7, a8, a9, rfl, L2⟩
      exact q0 μ2
end LK
namespace LK
end LK
namespace LK
open PySem PySem.Spec PyProof.Rows L2 DS MA
def top (i : Nat) : Stmt := PySem.Challenge.pw_keyedmoves_k62_values_that_are_no_texts.main.body.getD i (.Pass ⟨0, 0, 0, 0⟩)
abbrev s_is_key : Stmt := top 21
abbrev s_keys_within : Stmt := top 22
abbrev s_is_tree : Stmt := top 23
abbrev s_keys_of : Stmt := top 24
abbrev s_tree_from : Stmt := top 27
abbrev s_children_of : Stmt := top 29
abbrev s_path_of : Stmt := top 30
abbrev s_is_cost : Stmt := top 41
abbrev s_are_costs : Stmt := top 42
abbrev s_tree_lines : Stmt := top 51
abbrev s_show_tree : Stmt := top 52
abbrev s_split_line : Stmt := top 53
abbrev s_read_tree : Stmt := top 55
abbrev s_operation_in : Stmt := top 57
abbrev s_read_operations : Stmt := top 58
abbrev s_listed : Stmt := top 91
abbrev s__law_hand : Stmt := top 95
abbrev s__law_take : Stmt := top 96
abbrev s__law_of : Stmt := top 97
abbrev s__law_heard : Stmt := top 98
abbrev s__law_odd : Stmt := top 99
abbrev s__law_line : Stmt := top 100
abbrev s_law : Stmt := top 101
abbrev s_TreeReader_init : Stmt := (inCls (top 54)).getD 0 (.Pass ⟨0, 0, 0, 0⟩)
abbrev s_TreeReader_can_follow : Stmt := (inCls (top 54)).getD 1 (.Pass ⟨0, 0, 0, 0⟩)
abbrev s_TreeReader_add : Stmt := (inCls (top 54)).getD 2 (.Pass ⟨0, 0, 0, 0⟩)
abbrev s_View_init : Stmt := (inCls (top 85)).getD 0 (.Pass ⟨0, 0, 0, 0⟩)
abbrev s_View___len__ : Stmt := (inCls (top 85)).getD 2 (.Pass ⟨0, 0, 0, 0⟩)
abbrev s_View_tree : Stmt := (inCls (top 85)).getD 4 (.Pass ⟨0, 0, 0, 0⟩)
abbrev s_View_focused : Stmt := (inCls (top 85)).getD 6 (.Pass ⟨0, 0, 0, 0⟩)
abbrev s_View_spent : Stmt := (inCls (top 85)).getD 7 (.Pass ⟨0, 0, 0, 0⟩)
abbrev s_Desk_init : Stmt := (inCls (top 93)).getD 0 (.Pass ⟨0, 0, 0, 0⟩)
abbrev s_Desk_say : Stmt := (inCls (top 93)).getD 1 (.Pass ⟨0, 0, 0, 0⟩)
abbrev s_Desk_say_tree : Stmt := (inCls (top 93)).getD 2 (.Pass ⟨0, 0, 0, 0⟩)
abbrev s_Desk_say_price : Stmt := (inCls (top 93)).getD 3 (.Pass ⟨0, 0, 0, 0⟩)
abbrev s_Desk_say_change : Stmt := (inCls (top 93)).getD 4 (.Pass ⟨0, 0, 0, 0⟩)
abbrev s_Desk_say_question : Stmt := (inCls (top 93)).getD 5 (.Pass ⟨0, 0, 0, 0⟩)
theorem sc_is_key : FnScope ["value", "letter"] ["value"] (defScope s_is_key) := ⟨rfl, rfl, rfl, by decide +kernel, rfl, by decide +kernel, by decide +kernel⟩
theorem sc_keys_within : FnScope ["value", "levels", "found", "child", "some"] ["value", "levels"] (defScope s_keys_within) := ⟨rfl, rfl, rfl, by decide +kernel, rfl, by decide +kernel, by decide +kernel⟩
theorem sc_is_tree : FnScope ["value", "found"] ["value"] (defScope s_is_tree) := ⟨rfl, rfl, rfl, by decide +kernel, rfl, by decide +kernel, by decide +kernel⟩
theorem sc_keys_of : FnScope ["tree", "found", "waiting", "key", "children"] ["tree"] (defScope s_keys_of) := ⟨rfl, rfl, rfl, by decide +kernel, rfl, by decide +kernel, by decide +kernel⟩
theorem sc_tree_from : FnScope ["key", "children", "child"] ["key", "children"] (defScope s_tree_from) := ⟨rfl, rfl, rfl, by decide +kernel, rfl, by decide +kernel, by decide +kernel⟩
theorem sc_is_cost : FnScope ["value"] ["value"] (defScope s_is_cost) := ⟨rfl, rfl, rfl, by decide +kernel, rfl, by decide +kernel, by decide +kernel⟩
theorem sc_are_costs : FnScope ["value", "pair", "later"] ["value"] (defScope s_are_costs) := ⟨rfl, rfl, rfl, by decide +kernel, rfl, by decide +kernel, by decide +kernel⟩
theorem sc_tree_lines : FnScope ["tree", "depth", "key", "children", "found", "child"] ["tree", "depth"] (defScope s_tree_lines) := ⟨rfl, rfl, rfl, by decide +kernel, rfl, by decide +kernel, by decide +kernel⟩
theorem sc_show_tree : FnScope ["tree"] ["tree"] (defScope s_show_tree) := ⟨rfl, rfl, rfl, by decide +kernel, rfl, by decide +kernel, by decide +kernel⟩
theorem sc_split_line : FnScope ["line", "key", "depth", "rest"] ["line"] (defScope s_split_line) := ⟨rfl, rfl, rfl, by decide +kernel, rfl, by decide +kernel, by decide +kernel⟩
theorem sc_read_tree : FnScope ["text", "reader", "index", "line", "found"] ["text"] (defScope s_read_tree) := ⟨rfl, rfl, rfl, by decide +kernel, rfl, by decide +kernel, by decide +kernel⟩
theorem sc_read_operations : FnScope ["text", "found", "index", "line", "operation"] ["text"] (defScope s_read_operations) := ⟨rfl, rfl, rfl, by decide +kernel, rfl, by decide +kernel, by decide +kernel⟩
theorem sc__law_hand : FnScope ["_law_script", "_law_k", "_law_cell", "_law_great"] ["_law_script", "_law_k"] (defScope s__law_hand) := ⟨rfl, rfl, rfl, by decide +kernel, rfl, by decide +kernel, by decide +kernel⟩
theorem sc__law_take : FnScope ["_law_hand_here", "_law_many", "_law_turn", "_law_prime", "_law_mixed", "_law_digit"] ["_law_hand_here", "_law_many"] (defScope s__law_take) := ⟨rfl, rfl, rfl, by decide +kernel, rfl, by decide +kernel, by decide +kernel⟩
theorem sc__law_of : FnScope ["_law_hand_here", "_law_some"] ["_law_hand_here", "_law_some"] (defScope s__law_of) := ⟨rfl, rfl, rfl, by decide +kernel, rfl, by decide +kernel, by decide +kernel⟩
theorem sc__law_heard : FnScope ["_law_call", "_law_told", "_law_caught", "error"] ["_law_call"] (defScope s__law_heard) := ⟨rfl, rfl, rfl, by decide +kernel, rfl, by decide +kernel, by decide +kernel⟩
theorem sc__law_odd : FnScope ["_law_hand_here", "_law_found", "_law_turn"] ["_law_hand_here"] (defScope s__law_odd) := ⟨rfl, rfl, rfl, by decide +kernel, rfl, by decide +kernel, by decide +kernel⟩
theorem sc__law_line : FnScope ["_law_desk", "_law_value", "_law_caught", "error"] ["_law_desk", "_law_value"] (defScope s__law_line) := ⟨rfl, rfl, rfl, by decide +kernel, rfl, by decide +kernel, by decide +kernel⟩
theorem sc_law : FnScope ["_law_script", "_law_k", "_law_written", "_law_line_here", "_law_hand_here", "_law_desk", "_law_turn", "_law_odd_here", "_law_before", "_law_told"] ["_law_script"] (defScope s_law) := ⟨rfl, rfl, rfl, by decide +kernel, rfl, by decide +kernel, by decide +kernel⟩
theorem sc_TreeReader_init : FnScope ["self"] ["self"] (defScope s_TreeReader_init) := ⟨rfl, rfl, rfl, by decide +kernel, rfl, by decide +kernel, by decide +kernel⟩
theorem sc_TreeReader_can_follow : FnScope ["self", "depth", "key"] ["self", "depth", "key"] (defScope s_TreeReader_can_follow) := ⟨rfl, rfl, rfl, by decide +kernel, rfl, by decide +kernel, by decide +kernel⟩
theorem sc_TreeReader_add : FnScope ["self", "depth", "key"] ["self", "depth", "key"] (defScope s_TreeReader_add) := ⟨rfl, rfl, rfl, by decide +kernel, rfl, by decide +kernel, by decide +kernel⟩
theorem sc_View_init : FnScope ["self", "tree", "costs"] ["self", "tree", "costs"] (defScope s_View_init) := ⟨rfl, rfl, rfl, by decide +kernel, rfl, by decide +kernel, by decide +kernel⟩
theorem sc_View___len__ : FnScope ["self"] ["self"] (defScope s_View___len__) := ⟨rfl, rfl, rfl, by decide +kernel, rfl, by decide +kernel, by decide +kernel⟩
theorem sc_View_tree : FnScope ["self"] ["self"] (defScope s_View_tree) := ⟨rfl, rfl, rfl, by decide +kernel, rfl, by decide +kernel, by decide +kernel⟩
theorem sc_View_focused : FnScope ["self"] ["self"] (defScope s_View_focused) := ⟨rfl, rfl, rfl, by decide +kernel, rfl, by decide +kernel, by decide +kernel⟩
theorem sc_View_spent : FnScope ["self"] ["self"] (defScope s_View_spent) := ⟨rfl, rfl, rfl, by decide +kernel, rfl, by decide +kernel, by decide +kernel⟩
theorem sc_Desk_init : FnScope ["self", "text"] ["self", "text"] (defScope s_Desk_init) := ⟨rfl, rfl, rfl, by decide +kernel, rfl, by decide +kernel, by decide +kernel⟩
theorem sc_Desk_say : FnScope ["self", "line", "word", "feed", "text", "words", "key"] ["self", "line"] (defScope s_Desk_say) := ⟨rfl, rfl, rfl, by decide +kernel, rfl, by decide +kernel, by decide +kernel⟩
theorem sc_Desk_say_question : FnScope ["self", "words", "view"] ["self", "words"] (defScope s_Desk_say_question) := ⟨rfl, rfl, rfl, by decide +kernel, rfl, by decide +kernel, by decide +kernel⟩
abbrev s_NoElement_init : Stmt := (inCls (top 3)).getD 0 (.Pass ⟨0, 0, 0, 0⟩)
abbrev s_NotKept_init : Stmt := (inCls (top 5)).getD 0 (.Pass ⟨0, 0, 0, 0⟩)
abbrev s_Conflict_init : Stmt := (inCls (top 6)).getD 0 (.Pass ⟨0, 0, 0, 0⟩)
abbrev s_BadTree_init : Stmt := (inCls (top 7)).getD 0 (.Pass ⟨0, 0, 0, 0⟩)
theorem sc_BadTree_init : FnScope ["self", "value"] ["self", "value"] (defScope s_BadTree_init) := ⟨rfl, rfl, rfl, by decide +kernel, rfl, by decide +kernel, by decide +kernel⟩
abbrev s_BadCosts_init : Stmt := (inCls (top 8)).getD 0 (.Pass ⟨0, 0, 0, 0⟩)
theorem sc_BadCosts_init : FnScope ["self", "value"] ["self", "value"] (defScope s_BadCosts_init) := ⟨rfl, rfl, rfl, by decide +kernel, rfl, by decide +kernel, by decide +kernel⟩
abbrev s_Root_init : Stmt := (inCls (top 9)).getD 0 (.Pass ⟨0, 0, 0, 0⟩)
abbrev s_NotFocused_init : Stmt := (inCls (top 10)).getD 0 (.Pass ⟨0, 0, 0, 0⟩)
abbrev s_Lost_init : Stmt := (inCls (top 11)).getD 0 (.Pass ⟨0, 0, 0, 0⟩)
abbrev s_BadText_init : Stmt := (inCls (top 13)).getD 0 (.Pass ⟨0, 0, 0, 0⟩)
theorem sc_BadText_init : FnScope ["self", "line"] ["self", "line"] (defScope s_BadText_init) := ⟨rfl, rfl, rfl, by decide +kernel, rfl, by decide +kernel, by decide +kernel⟩
abbrev s_BadLine_init : Stmt := (inCls (top 14)).getD 0 (.Pass ⟨0, 0, 0, 0⟩)
theorem sc_BadLine_init : FnScope ["self", "line"] ["self", "line"] (defScope s_BadLine_init) := ⟨rfl, rfl, rfl, by decide +kernel, rfl, by decide +kernel, by decide +kernel⟩
structure All (K : PySem.W.Frag) (mg : Str → Option Value) (wp : Params) where
  x_NoElement : XDef K mg "NoElement" "key" "key" "NoElement.__init__" s_NoElement_init
  x_DifferentRoots : XDef0 K mg "DifferentRoots"
  x_NotKept : XDef K mg "NotKept" "value" "value" "NotKept.__init__" s_NotKept_init
  x_Conflict : XDef K mg "Conflict" "value" "value" "Conflict.__init__" s_Conflict_init
  x_BadTree : XDef K mg "BadTree" "value" "value" "BadTree.__init__" s_BadTree_init
  x_BadCosts : XDef K mg "BadCosts" "value" "value" "BadCosts.__init__" s_BadCosts_init
  x_Root : XDef K mg "Root" "key" "key" "Root.__init__" s_Root_init
  x_NotFocused : XDef K mg "NotFocused" "key" "key" "NotFocused.__init__" s_NotFocused_init
  x_Lost : XDef K mg "Lost" "value" "value" "Lost.__init__" s_Lost_init
  x_NothingToUndo : XDef0 K mg "NothingToUndo"
  x_BadText : XDef K mg "BadText" "line" "line" "BadText.__init__" s_BadText_init
  x_BadLine : XDef K mg "BadLine" "line" "line" "BadLine.__init__" s_BadLine_init
  b_KeyedError : XBase K mg "KeyedError"
  a_BadLine : Addr
  m_BadLine : mg "BadLine" = some (.ref a_BadLine)
  kit_BadLine : ∀ y b C, kX xnames "BadLine" y = some b → PySem.W.nsIn K mainGlobals y = some (some (.ref C)) → PySem.W.kitOne K (.ref C) (.ref a_BadLine) = some b
  a_BadText : Addr
  m_BadText : mg "BadText" = some (.ref a_BadText)
  kit_BadText : ∀ y b C, kX xnames "BadText" y = some b → PySem.W.nsIn K mainGlobals y = some (some (.ref C)) → PySem.W.kitOne K (.ref C) (.ref a_BadText) = some b
  a_BadTree : Addr
  m_BadTree : mg "BadTree" = some (.ref a_BadTree)
  kit_BadTree : ∀ y b C, kX xnames "BadTree" y = some b → PySem.W.nsIn K mainGlobals y = some (some (.ref C)) → PySem.W.kitOne K (.ref C) (.ref a_BadTree) = some b
  a_KeyedError : Addr
  m_KeyedError : mg "KeyedError" = some (.ref a_KeyedError)
  exm_KeyedError : ∀ y b C, kX xnames "KeyedError" y = some b → PySem.W.nsIn K mainGlobals y = some (some (.ref C)) → PySem.W.exmOne K (.ref C) (.ref a_KeyedError) = some b
  kit_KeyedError : ∀ y b C, kX xnames "KeyedError" y = some b → PySem.W.nsIn K mainGlobals y = some (some (.ref C)) → PySem.W.kitOne K (.ref C) (.ref a_KeyedError) = some b
  kit_ValueError : ∀ y b C, kX xnames "ValueError" y = some b → PySem.W.nsIn K mainGlobals y = some (some (.ref C)) → PySem.W.kitOne K (.ref C) (.type "ValueError") = some b
  o_TreeReader : OCls K mg "TreeReader"
  o_View : OCls K mg "View"
  o_Desk : OCls K mg "Desk"
  n_Desk_held_view : NoAttr K o_Desk.C "held_view"
  n_TreeReader_child_keys : NoAttr K o_TreeReader.C "child_keys"
  n_TreeReader_way : NoAttr K o_TreeReader.C "way"
  n_View_past : NoAttr K o_View.C "past"
  n_View_present : NoAttr K o_View.C "present"
  is_key : Def K mg "is_key" s_is_key ["value"]
  keys_within : Def K mg "keys_within" s_keys_within ["value", "levels"]
  is_tree : Def K mg "is_tree" s_is_tree ["value"]
  keys_of : Def K mg "keys_of" s_keys_of ["tree"]
  tree_from : Def K mg "tree_from" s_tree_from ["key", "children"]
  children_of : Def K mg "children_of" s_children_of ["tree", "key"]
  path_of : Def K mg "path_of" s_path_of ["tree", "key"]
  is_cost : Def K mg "is_cost" s_is_cost ["value"]
  are_costs : Def K mg "are_costs" s_are_costs ["value"]
  tree_lines : Def K mg "tree_lines" s_tree_lines ["tree", "depth"]
  show_tree : Def K mg "show_tree" s_show_tree ["tree"]
  split_line : Def K mg "split_line" s_split_line ["line"]
  read_tree : Def K mg "read_tree" s_read_tree ["text"]
  operation_in : Def K mg "operation_in" s_operation_in ["line"]
  read_operations : Def K mg "read_operations" s_read_operations ["text"]
  listed : Def K mg "listed" s_listed ["words", "between"]
  _law_hand : Def K mg "_law_hand" s__law_hand ["_law_script", "_law_k"]
  _law_take : Def K mg "_law_take" s__law_take ["_law_hand_here", "_law_many"]
  _law_of : Def K mg "_law_of" s__law_of ["_law_hand_here", "_law_some"]
  _law_heard : Def K mg "_law_heard" s__law_heard ["_law_call"]
  _law_odd : Def K mg "_law_odd" s__law_odd ["_law_hand_here"]
  _law_line : Def K mg "_law_line" s__law_line ["_law_desk", "_law_value"]
  law : Def K mg "law" s_law ["_law_script"]
  i_TreeReader : IDef o_TreeReader "TreeReader.__init__" s_TreeReader_init ["self"]
  m_TreeReader_can_follow : MDef o_TreeReader "can_follow" "TreeReader.can_follow" s_TreeReader_can_follow ["self", "depth", "key"]
  m_TreeReader_add : MDef o_TreeReader "add" "TreeReader.add" s_TreeReader_add ["self", "depth", "key"]
  i_View : IDefV o_View "View.__init__" s_View_init ["self", "tree", "costs"]
  v_View : DefT K i_View.fd ["self", "tree", "costs"]
  m_View___len__ : MDef o_View "__len__" "View.__len__" s_View___len__ ["self"]
  m_View_tree : MDef o_View "tree" "View.tree" s_View_tree ["self"]
  m_View_focused : MDef o_View "focused" "View.focused" s_View_focused ["self"]
  m_View_spent : MDef o_View "spent" "View.spent" s_View_spent ["self"]
  i_Desk : IDef o_Desk "Desk.__init__" s_Desk_init ["self", "text"]
  m_Desk_say : MDef o_Desk "say" "Desk.say" s_Desk_say ["self", "line"]
  m_Desk_say_tree : MDef o_Desk "say_tree" "Desk.say_tree" s_Desk_say_tree ["self", "line", "word", "text"]
  m_Desk_say_price : MDef o_Desk "say_price" "Desk.say_price" s_Desk_say_price ["self", "line", "words"]
  m_Desk_say_change : MDef o_Desk "say_change" "Desk.say_change" s_Desk_say_change ["self", "words"]
  m_Desk_say_question : MDef o_Desk "say_question" "Desk.say_question" s_Desk_say_question ["self", "words"]
  z_ValueError : mg "ValueError" = none
  z_abs : mg "abs" = none
  z_all : mg "all" = none
  z_bool : mg "bool" = none
  z_divmod : mg "divmod" = none
  z_enumerate : mg "enumerate" = none
  z_int : mg "int" = none
  z_isinstance : mg "isinstance" = none
  z_len : mg "len" = none
  z_max : mg "max" = none
  z_min : mg "min" = none
  z_range : mg "range" = none
  z_repr : mg "repr" = none
  z_set : mg "set" = none
  z_str : mg "str" = none
  z_tuple : mg "tuple" = none
  z_zip : mg "zip" = none
  g_KEY_COUNTS : GDic K wp mg "KEY_COUNTS" d_KEY_COUNTS
  c_BLANK : ∃ t, mg "BLANK" = some (.str " " t)
  c_ELEMENT_PARTS : ∃ t, mg "ELEMENT_PARTS" = some (.int 2 t)
  c_FEED : ∃ t, mg "FEED" = some (.str "\n" t)
  c_INDENT : ∃ t, mg "INDENT" = some (.str "  " t)
  c_LEAST_COST : ∃ t, mg "LEAST_COST" = some (.int 1 t)
  c_LETTERS : ∃ t, mg "LETTERS" = some (.str "abcdefghijklmnopqrstuvwxyz" t)
  c_LONGEST_KEY : ∃ t, mg "LONGEST_KEY" = some (.int 8 t)
  c_MOST_COST : ∃ t, mg "MOST_COST" = some (.int 1000 t)
  c_MOST_ELEMENTS : ∃ t, mg "MOST_ELEMENTS" = some (.int 60 t)
  c_MOST_NESTED : ∃ t, mg "MOST_NESTED" = some (.int 20 t)
  c_MOST_OPERATIONS : ∃ t, mg "MOST_OPERATIONS" = some (.int 400 t)
  c_PAIR : ∃ t, mg "PAIR" = some (.int 2 t)
section
variable {P : Program} {w : World} {K : PySem.W.Frag} {mg : Str → Option Value} {base : Heap}
theorem okx_BadTree (T : All K mg w.params) : XIni P w base T.x_BadTree 2 :=
  xini_ok T.x_BadTree T.b_KeyedError sc_BadTree_init rfl rfl (.inl rfl) (.inl rfl) (by decide) (by decide) (by decide) fun _ _ => ⟨_, rfl⟩
theorem okx_BadCosts (T : All K mg w.params) : XIni P w base T.x_BadCosts 2 :=
  xini_ok T.x_BadCosts T.b_KeyedError sc_BadCosts_init rfl rfl (.inl rfl) (.inl rfl) (by decide) (by decide) (by decide) fun _ _ => ⟨_, rfl⟩
theorem okx_BadText (T : All K mg w.params) : XIni P w base T.x_BadText 2 :=
  xini_ok T.x_BadText T.b_KeyedError sc_BadText_init rfl rfl (.inl rfl) (.inl rfl) (by decide) (by decide) (by decide) fun _ _ => ⟨_, rfl⟩
theorem okx_BadLine (T : All K mg w.params) : XIni P w base T.x_BadLine 2 :=
  xini_ok T.x_BadLine T.b_KeyedError sc_BadLine_init rfl rfl (.inl rfl) (.inl rfl) (by decide) (by decide) (by decide) fun _ _ => ⟨_, rfl⟩
theorem ok_is_key (T : All K mg w.params) (Bm : BM base mg) : FnD P w base T.is_key 1 sp_is_key := by
  exact def_ok (k := 0) T.is_key.F sc_is_key _ (len_of (n := 1) len_is_key) (fun cdv A outer s H E hq hr => (dss_cons (ds_if (PW.pt (dw_or (dt_not (dt_val (de_callB call_isi lc_isi rfl T.z_isinstance bt_isinstance (da_cons (dv 0) (da_cons (de_ty rfl T.z_str bt_str) da_nil))))) (dw_or1 (dt_not (dt_chain opr_le lr_cmp opr_le lr_cmp de_int (de_callB cr_len lc_len rfl T.z_len bt_len (da_cons (dv 0) da_nil)) (de_gint T.c_LONGEST_KEY)))))) (dss_one (ds_ret de_bl)) dss_nil)
    (dss_one (ds_ret (de_callB (cr_all rfl) lc_all rfl T.z_all bt_all (da_cons (de_lc (own := [("letter", 1)]) rfl sc_is_key.nd (blkOk_by (show blkC ["value", "letter"] (defScope s_is_key) _ [("letter", 1)] = true by decide +kernel)) (own_name (by decide)) (di_seq (dv 0)) (fun _ _ _ _ _ => (pg_name (i := 1) sc_is_key.nd rfl (by first | exact Or.inl rfl | exact Or.inr rfl) (by first | exact .inl rfl | exact .inr rfl))) (fun _ _ _ _ _ => dts_nil) (fun _ _ _ _ _ => (de_cmp opr_in lr_in (dv 1) (de_gstr T.c_LETTERS) (by with_unfolding_all rfl)))) da_nil)))))) fun ds μ Q E h => read_is_key ds μ Q E h
theorem ok_keys_of (T : All K mg w.params) (Bm : BM base mg) : FnD P w base T.keys_of 1 sp_keys_of := by
  exact def_ok (k := 0) T.keys_of.F sc_keys_of _ (len_of (n := 1) len_keys_of) (fun cdv A outer s H E hq hr => (dss_cons (ds_par (i := 1) (j := 2) rfl sc_keys_of.nd rfl rfl (by decide) rfl rfl (da_cons (de_lstM da_nil) (da_cons (de_lstM (da_cons (dv 0) da_nil)) da_nil)) rfl)
    (dss_cons (ds_while PassesOwn.never (dt_cmp (opr_ne (unit64 hr)) lr_ne (dv 2) (de_lst da_nil) (nomark _)) (dss_cons (ds_asg (de_pop (dv 2)) (dg_tup rfl (dgs_cons (dg_name (i := 3) sc_keys_of.nd rfl (by first | exact Or.inl rfl | exact Or.inr rfl)) (dgs_cons (dg_name (i := 4) sc_keys_of.nd rfl (by first | exact Or.inl rfl | exact Or.inr rfl)) dgs_nil))))
    (dss_cons (ds_expr (de_append (dv 1) (dv 3)))
    (dss_one (ds_expr (de_extend (dv 2) (de_rev (dv 4))))))))
    (dss_one (ds_ret (de_callT call_tuple_of lc_tuple rfl T.z_tuple bt_tuple (da_cons (dv 1) da_nil))))))) fun ds μ Q E h => read_keys_of ds μ Q E h
theorem ok_children_of (T : All K mg w.params) (Bm : BM base mg) : FnD P w base T.children_of 1 sp_children_of := fnG_noneC fun _ _ _ _ h => h
theorem ok_path_of (T : All K mg w.params) (Bm : BM base mg) : FnD P w base T.path_of 1 sp_path_of := fnG_noneC fun _ _ _ _ h => h
theorem ok_operation_in (T : All K mg w.params) (Bm : BM base mg) : FnD P w base T.operation_in 1 sp_operation_in := fnG_noneC fun _ _ _ _ h => h
theorem ok_listed (T : All K mg w.params) (Bm : BM base mg) : FnD P w base T.listed 1 sp_listed := fnG_noneC fun _ _ _ _ h => h
theorem ok__law_hand (T : All K mg w.params) (Bm : BM base mg) : FnD P w base T._law_hand 1 sp__law_hand := by
  exact def_ok (k := 0) T._law_hand.F sc__law_hand _ (len_of (n := 2) len__law_hand) (fun cdv A outer s H E hq hr => (dss_cons (ds_set (i := 2) sc__law_hand.nd rfl (by first | exact Or.inl rfl | exact Or.inr rfl) (de_ifExp (dt_cmp opr_lt lr_lt (dv 1) (de_callB cr_len lc_len rfl T.z_len bt_len (da_cons (dv 0) da_nil)) (nomark _)) (de_ix (dv 0) (dv 1) (fun _ _ => rfl)) (de_op opr_add lr_add (de_op opr_mul lr_mul de_int (dv 1)) de_int)))
    (dss_cons (ds_set (i := 3) sc__law_hand.nd rfl (by first | exact Or.inl rfl | exact Or.inr rfl) (de_op opr_mul lr_mul (de_op op_mod lr_i2 (de_callB call_abs lc_abs rfl T.z_abs bt_abs (da_cons (dv 2) da_nil)) (de_op op_powW lr_i2 (de_op op_powW lr_i2 de_int de_int) de_int)) (de_callT call_int1 lc_int rfl T.z_int bt_int (da_cons (de_cmp opr_ge lr_cmp (de_callB call_abs lc_abs rfl T.z_abs bt_abs (da_cons (dv 2) da_nil)) (de_op op_powW lr_i2 de_int de_int) (nomark _)) da_nil))))
    (dss_one (ds_ret (de_lstM (da_cons (dv 3) (da_cons (de_op op_mod lr_i2 (de_op opr_mul lr_mul (de_op opr_add lr_add (de_op opr_add lr_add (de_op op_mod lr_i2 (dv 2) de_int) (de_op opr_mul lr_mul (de_op opr_mul lr_mul de_int (dv 1)) (dv 1))) de_int) de_int) de_int) (da_cons de_int da_nil))))))))) fun ds μ Q E h => read__law_hand ds μ Q E h
theorem ok__law_take (T : All K mg w.params) (Bm : BM base mg) : FnD P w base T._law_take 1 sp__law_take := by
  exact def_ok (k := 0) T._law_take.F sc__law_take _ (len_of (n := 2) len__law_take) (fun cdv A outer s H E hq hr => (dss_cons (ds_if (dt_cmp opr_gt lr_cmp (de_ix (dv 0) de_int (fun _ _ => rfl)) de_int (nomark _)) (dss_cons (ds_set (i := 5) sc__law_take.nd rfl (by first | exact Or.inl rfl | exact Or.inr rfl) (de_op op_mod lr_i2 (de_ix (dv 0) de_int (fun _ _ => rfl)) (dv 1)))
    (dss_cons (ds_asg (de_op op_fdivW lr_i2 (de_ix (dv 0) de_int (fun _ _ => rfl)) (dv 1)) (dg_sub (dv 0) de_int set_list ls_list))
    (dss_one (ds_ret (dv 5))))) dss_nil)
    (dss_cons (ds_set (i := 2) sc__law_take.nd rfl (by first | exact Or.inl rfl | exact Or.inr rfl) (de_op opr_add lr_add (de_ix (dv 0) de_int (fun _ _ => rfl)) de_int))
    (dss_cons (ds_asg (dv 2) (dg_sub (dv 0) de_int set_list ls_list))
    (dss_cons (ds_set (i := 3) sc__law_take.nd rfl (by first | exact Or.inl rfl | exact Or.inr rfl) (de_ix (de_lst (da_cons de_int (da_cons de_int (da_cons de_int (da_cons de_int (da_cons de_int (da_cons de_int da_nil))))))) (de_op op_mod lr_i2 (dv 2) de_int) (fun _ _ => rfl)))
    (dss_cons (ds_set (i := 4) sc__law_take.nd rfl (by first | exact Or.inl rfl | exact Or.inr rfl) (de_op op_mod lr_i2 (de_op op_powW lr_i2 (de_op opr_add lr_add (de_op opr_add lr_add (de_ix (dv 0) de_int (fun _ _ => rfl)) (de_op opr_mul lr_mul (de_op opr_mul lr_mul de_int (dv 2)) (dv 2))) (de_op opr_mul lr_mul de_int (dv 2))) de_int) (dv 3)))
    (dss_one (ds_ret (de_op op_mod lr_i2 (de_op op_fdivW lr_i2 (de_op op_mod lr_i2 (de_op opr_mul lr_mul (dv 4) (de_op opr_add lr_add (de_op op_mod lr_i2 (dv 4) de_int) (de_op opr_mul lr_mul de_int (dv 2)))) de_int) de_int) (dv 1)))))))))) fun ds μ Q E h => read__law_take ds μ Q E h
theorem gv__law_heard {X : Cx} (T : All X.K X.mg X.w.params) (cdv : Value) (hq : Quiet X.A) (hr : Room 1 X.A) {q : Str} : GivesS X ["_law_call", "_law_told", "_law_caught", "error"] "_law_heard" (defScope s__law_heard) T._law_heard.f cdv (defBody s__law_heard) "_law_call" q (TTd X.K q sp__law_heard) := by
  exact gives_d _ (fun s H f An th hA ask => have hr := hr.deeper (envOfC "_law_heard" (defScope s__law_heard) s.heap.objs.size T._law_heard.f cdv)
    (sas_cons hA (sa (ds_asg (de_tup (da_cons de_non (da_cons de_non da_nil))) (dg_tup rfl (dgs_cons (dg_name (i := 1) sc__law_heard.nd rfl (by first | exact Or.inl rfl | exact Or.inr rfl)) (dgs_cons (dg_name (i := 2) sc__law_heard.nd rfl (by first | exact Or.inl rfl | exact Or.inr rfl)) dgs_nil)))))
    (sas_cons hA (sa_try (i := 3) (k := 1) (j := 2) hA ask rfl rfl rfl sc__law_heard.nd ⟨rfl, by decide, .inl T.m_KeyedError⟩ T.exm_KeyedError rfl rfl rfl rfl (by first | exact Or.inl rfl | exact Or.inr rfl | exact Or.inr (Or.inl rfl) | exact Or.inr (Or.inr rfl)) (by first | exact Or.inl rfl | exact Or.inr rfl | exact Or.inr (Or.inl rfl) | exact Or.inr (Or.inr rfl)) (by first | exact Or.inl rfl | exact Or.inr rfl | exact Or.inr (Or.inl rfl) | exact Or.inr (Or.inr rfl)))
    (sas_cons hA (sa (ds_if (dt_isN (dv 2)) (dss_one (ds_ret (de_tup (da_cons de_str (da_cons (dv 1) da_nil))))) dss_nil))
    (sas_cons hA (sa (ds_if (PW.pt (dw_and (dt_val (de_isX (dv 2) rfl T.z_isinstance rfl T.m_BadText T.kit_BadText)) (dw_and (dt_not (dt_val (de_isXTup (cs := [T.a_BadLine, T.a_BadTree]) (dv 2) (da_cons (de_glob (d := .ref T.a_BadLine) (v := .ref T.a_BadLine) rfl T.m_BadLine rfl rfl) (da_cons (de_glob (d := .ref T.a_BadTree) (v := .ref T.a_BadTree) rfl T.m_BadTree rfl rfl) da_nil)) (KitsX.cons T.kit_BadLine (KitsX.cons T.kit_BadTree KitsX.nil)) T.z_isinstance (by show 2 ≤ sizeLine; decide)))) (dw_and1 (dt_val (de_isXT (dv 2) rfl T.z_isinstance rfl T.z_ValueError bt_ValueError T.kit_ValueError)))))) (dss_one (ds_ret (de_tup (da_cons de_str (da_cons (de_fld (dv 2)) da_nil))))) dss_nil))
    (sas_one (sa (ds_ret (de_tup (da_cons de_str (da_cons de_non da_nil))))))))))) fun f th μ Q h => read__law_heard f th μ Q h
theorem ok_TreeReader_init (T : All K mg w.params) (Bm : BM base mg) : FnI P w base T.i_TreeReader 1 sp_TreeReader_init := by
  exact def_ok (k := 0) T.i_TreeReader.F sc_TreeReader_init _ (len_of (n := 1) len_TreeReader_init) (fun cdv A outer s H E hq hr => (dss_cons (ds_putA T.o_TreeReader T.n_TreeReader_child_keys (dv 0) de_dict0M)
    (dss_one (ds_putA T.o_TreeReader T.n_TreeReader_way (dv 0) (de_lst da_nil))))) fun ds μ Q E h => read_TreeReader_init ds μ Q E h
theorem ok_TreeReader_can_follow (T : All K mg w.params) (Bm : BM base mg) : FnM P w base T.m_TreeReader_can_follow 1 sp_TreeReader_can_follow := by
  exact def_ok (k := 0) T.m_TreeReader_can_follow.F sc_TreeReader_can_follow _ (len_of (n := 3) len_TreeReader_can_follow) (fun cdv A outer s H E hq hr => (dss_cons (ds_if (PW.pt (dw_or (dt_din (hu_of hr) (dv 2) (de_attr T.o_TreeReader T.n_TreeReader_child_keys (dv 0))) (dw_or (dt_cmp (opr_eq (unit64 hr)) lr_eq (de_callB call_lenD lc_lenD rfl T.z_len bt_len (da_cons (de_attr T.o_TreeReader T.n_TreeReader_child_keys (dv 0)) da_nil)) (de_gint T.c_MOST_ELEMENTS) (nomark _)) (dw_or1 (dt_cmp opr_ge lr_cmp (dv 1) (de_gint T.c_MOST_NESTED) (nomark _)))))) (dss_one (ds_ret de_bl)) dss_nil)
    (dss_one (ds_ret (de_ifExp (dt_cmp (opr_neL0 (unit64 hr)) lr_L0 (de_attr T.o_TreeReader T.n_TreeReader_way (dv 0)) (de_lst da_nil) (nomark _)) (de_chain opr_le lr_cmp opr_le lr_cmp de_int (dv 1) (de_callB cr_len lc_len rfl T.z_len bt_len (da_cons (de_attr T.o_TreeReader T.n_TreeReader_way (dv 0)) da_nil))) (de_cmp (opr_eq (unit64 hr)) lr_eq (dv 1) de_int (nomark _))))))) fun ds μ Q E h => read_TreeReader_can_follow ds μ Q E h
theorem ok_TreeReader_add (T : All K mg w.params) (Bm : BM base mg) : FnM P w base T.m_TreeReader_add 1 sp_TreeReader_add := by
  exact def_ok (k := 0) T.m_TreeReader_add.F sc_TreeReader_add _ (len_of (n := 3) len_TreeReader_add) (fun cdv A outer s H E hq hr => (dss_cons (ds_if (dt_cmp opr_gt lr_cmp (dv 1) de_int (nomark _)) (dss_one (ds_expr (de_append (de_dget (hu_of hr) (de_attr T.o_TreeReader T.n_TreeReader_child_keys (dv 0)) (de_ix (de_attr T.o_TreeReader T.n_TreeReader_way (dv 0)) (de_op op_sub lr_sub (dv 1) de_int) (fun _ _ => rfl)) (fun _ _ => rfl)) (dv 2)))) dss_nil)
    (dss_cons (ds_dput (hu_of hr) (de_attr T.o_TreeReader T.n_TreeReader_child_keys (dv 0)) (dv 2) (de_lstM da_nil) rfl)
    (dss_one (ds_putA T.o_TreeReader T.n_TreeReader_way (dv 0) (de_op opr_add lr_add (de_slice (de_attr T.o_TreeReader T.n_TreeReader_way (dv 0)) do_none (do_some (dv 1))) (de_lst (da_cons (dv 2) da_nil)))))))) fun ds μ Q E h => read_TreeReader_add ds μ Q E h
theorem ok_View_tree (T : All K mg w.params) (Bm : BM base mg) : FnM P w base T.m_View_tree 1 sp_View_tree := by
  exact def_ok (k := 0) T.m_View_tree.F sc_View_tree _ (len_of (n := 1) len_View_tree) (fun cdv A outer s H E hq hr => (dss_one (ds_ret (de_ix (de_attr T.o_View T.n_View_present (dv 0)) de_int (fun _ _ => rfl))))) fun ds μ Q E h => read_View_tree ds μ Q E h
theorem ok_View_focused (T : All K mg w.params) (Bm : BM base mg) : FnM P w base T.m_View_focused 1 sp_View_focused := by
  exact def_ok (k := 0) T.m_View_focused.F sc_View_focused _ (len_of (n := 1) len_View_focused) (fun cdv A outer s H E hq hr => (dss_one (ds_ret (de_ix (de_attr T.o_View T.n_View_present (dv 0)) de_int (fun _ _ => rfl))))) fun ds μ Q E h => read_View_focused ds μ Q E h
theorem ok_View_spent (T : All K mg w.params) (Bm : BM base mg) : FnM P w base T.m_View_spent 1 sp_View_spent := by
  exact def_ok (k := 0) T.m_View_spent.F sc_View_spent _ (len_of (n := 1) len_View_spent) (fun cdv A outer s H E hq hr => (dss_one (ds_ret (de_ix (de_attr T.o_View T.n_View_present (dv 0)) de_int (fun _ _ => rfl))))) fun ds μ Q E h => read_View_spent ds μ Q E h
theorem ok_Desk_say_tree (T : All K mg w.params) (Bm : BM base mg) : FnMX P w base T.m_Desk_say_tree 1 sp_Desk_say_tree := fnG_none fun _ _ _ _ h => h
theorem ok_Desk_say_price (T : All K mg w.params) (Bm : BM base mg) : FnMX P w base T.m_Desk_say_price 1 sp_Desk_say_price := fnG_none fun _ _ _ _ h => h
theorem ok_Desk_say_change (T : All K mg w.params) (Bm : BM base mg) : FnMX P w base T.m_Desk_say_change 1 sp_Desk_say_change := fnG_none fun _ _ _ _ h => h
theorem ok_is_cost (T : All K mg w.params) (Bm : BM base mg) : FnD P w base T.is_cost 2 sp_is_cost := by
  have F_is_key := ok_is_key (P := P) (w := w) (base := base) T Bm
  exact def_ok (k := 1) T.is_cost.F sc_is_cost _ (len_of (n := 1) len_is_cost) (fun cdv A outer s H E hq hr => (dss_cons (ds_if (PW.pt (dw_or (dt_not (dt_val (de_callB call_isi lc_isi rfl T.z_isinstance bt_isinstance (da_cons (dv 0) (da_cons (de_ty rfl T.z_tuple bt_tuple) da_nil))))) (dw_or (dt_cmp (opr_ne (unit64 hr)) lr_ne (de_callB cr_len lc_len rfl T.z_len bt_len (da_cons (dv 0) da_nil)) (de_gint T.c_PAIR) (nomark _)) (dw_or1 (dt_not (dt_val (de_def F_is_key hq hr (da_cons (de_ix (dv 0) de_int (fun _ _ => rfl)) da_nil)))))))) (dss_one (ds_ret de_bl)) dss_nil)
    (dss_one (ds_ret (de_and (de_callB call_isi lc_isi rfl T.z_isinstance bt_isinstance (da_cons (de_ix (dv 0) de_int (fun _ _ => rfl)) (da_cons (de_ty rfl T.z_int bt_int) da_nil))) (de_and (de_not (de_callB call_isi lc_isi rfl T.z_isinstance bt_isinstance (da_cons (de_ix (dv 0) de_int (fun _ _ => rfl)) (da_cons (de_ty rfl T.z_bool bt_bool) da_nil)))) (de_one (de_chain opr_le lr_cmp opr_le lr_cmp (de_gint T.c_LEAST_COST) (de_ix (dv 0) de_int (fun _ _ => rfl)) (de_gint T.c_MOST_COST))))))))) fun ds μ Q E h => read_is_cost ds μ Q E h
theorem ok_split_line (T : All K mg w.params) (Bm : BM base mg) : FnD P w base T.split_line 2 sp_split_line := by
  have F_is_key := ok_is_key (P := P) (w := w) (base := base) T Bm
  exact def_ok (k := 1) T.split_line.F sc_split_line _ (len_of (n := 1) len_split_line) (fun cdv A outer s H E hq hr => (dss_cons (ds_set (i := 1) sc_split_line.nd rfl (by first | exact Or.inl rfl | exact Or.inr rfl) (de_lstrip (dv 0) (de_gstr T.c_BLANK)))
    (dss_cons (ds_asg (de_callB call_divmodW lc_divmod rfl T.z_divmod bt_divmod (da_cons (de_op op_sub lr_sub (de_callB cr_len lc_len rfl T.z_len bt_len (da_cons (dv 0) da_nil)) (de_callB cr_len lc_len rfl T.z_len bt_len (da_cons (dv 1) da_nil))) (da_cons (de_callB cr_len lc_len rfl T.z_len bt_len (da_cons (de_gstr T.c_INDENT) da_nil)) da_nil))) (dg_tup rfl (dgs_cons (dg_name (i := 2) sc_split_line.nd rfl (by first | exact Or.inl rfl | exact Or.inr rfl)) (dgs_cons (dg_name (i := 3) sc_split_line.nd rfl (by first | exact Or.inl rfl | exact Or.inr rfl)) dgs_nil))))
    (dss_one (ds_ret (de_ifExp (PW.pt (dw_and (dt_cmp (opr_eq (unit64 hr)) lr_eq (dv 3) de_int (nomark _)) (dw_and1 (dt_val (de_def F_is_key hq hr (da_cons (dv 1) da_nil)))))) (de_tup (da_cons (dv 2) (da_cons (dv 1) da_nil))) de_non)))))) fun ds μ Q E h => read_split_line ds μ Q E h
theorem ok__law_of (T : All K mg w.params) (Bm : BM base mg) : FnD P w base T._law_of 2 sp__law_of := by
  have F__law_take := ok__law_take (P := P) (w := w) (base := base) T Bm
  exact def_ok (k := 1) T._law_of.F sc__law_of _ (len_of (n := 2) len__law_of) (fun cdv A outer s H E hq hr => (dss_one (ds_ret (de_ix (dv 1) (de_def F__law_take hq hr (da_cons (dv 0) (da_cons (de_callB cr_len lc_len rfl T.z_len bt_len (da_cons (dv 1) da_nil)) da_nil))) (fun _ _ => rfl))))) fun ds μ Q E h => read__law_of ds μ Q E h
theorem ok_View___len__ (T : All K mg w.params) (Bm : BM base mg) : FnM P w base T.m_View___len__ 2 sp_View___len__ := by
  have F_keys_of := ok_keys_of (P := P) (w := w) (base := base) T Bm
  exact def_ok (k := 1) T.m_View___len__.F sc_View___len__ _ (len_of (n := 1) len_View___len__) (fun cdv A outer s H E hq hr => (dss_one (ds_ret (de_callB cr_len lc_len rfl T.z_len bt_len (da_cons (de_def F_keys_of hq hr (da_cons (de_ix (de_attr T.o_View T.n_View_present (dv 0)) de_int (fun _ _ => rfl)) da_nil)) da_nil))))) fun ds μ Q E h => read_View___len__ ds μ Q E h
theorem ok_are_costs (T : All K mg w.params) (Bm : BM base mg) : FnD P w base T.are_costs 3 sp_are_costs := by
  have F_is_cost := ok_is_cost (P := P) (w := w) (base := base) T Bm
  exact def_ok (k := 2) T.are_costs.F sc_are_costs _ (len_of (n := 1) len_are_costs) (fun cdv A outer s H E hq hr => (dss_cons (ds_if (PW.pt (dw_or (dt_not (dt_val (de_callB call_isi lc_isi rfl T.z_isinstance bt_isinstance (da_cons (dv 0) (da_cons (de_ty rfl T.z_tuple bt_tuple) da_nil))))) (dw_or1 (dt_not (dt_val (de_callB (cr_all rfl) lc_all rfl T.z_all bt_all (da_cons (de_lc (own := [("pair", 1)]) rfl sc_are_costs.nd (blkOk_by (show blkC ["value", "pair", "later"] (defScope s_are_costs) _ [("pair", 1)] = true by decide +kernel)) (own_name (by decide)) (di_seq (dv 0)) (fun _ _ _ _ _ => (pg_name (i := 1) sc_are_costs.nd rfl (by first | exact Or.inl rfl | exact Or.inr rfl) (by first | exact .inl rfl | exact .inr rfl))) (fun _ _ _ _ _ => dts_nil) (fun _ _ _ _ _ => (de_def F_is_cost hq hr (da_cons (dv 1) da_nil)))) da_nil))))))) (dss_one (ds_ret de_bl)) dss_nil)
    (dss_one (ds_ret (de_callB (cr_all rfl) lc_all rfl T.z_all bt_all (da_cons (de_lc (own := [("pair", 1), ("later", 2)]) rfl sc_are_costs.nd (blkOk_by (show blkC ["value", "pair", "later"] (defScope s_are_costs) _ [("pair", 1), ("later", 2)] = true by decide +kernel)) (own_tup (by decide)) (di_zip rfl T.z_zip (da_cons (dv 0) (da_cons (de_slice (dv 0) (do_some de_int) do_none) da_nil))) (fun _ _ _ _ _ => (pg_tup rfl (pgs_cons (pg_name (i := 1) sc_are_costs.nd rfl (by first | exact Or.inl rfl | exact Or.inr rfl) (by first | exact .inl rfl | exact .inr rfl)) (pgs_cons (pg_name (i := 2) sc_are_costs.nd rfl (by first | exact Or.inl rfl | exact Or.inr rfl) (by first | exact .inl rfl | exact .inr rfl)) pgs_nil rfl) rfl) rfl)) (fun _ _ _ _ _ => dts_nil) (fun _ _ _ _ _ => (de_cmp opr_lt lr_lt (de_ix (dv 1) de_int (fun _ _ => rfl)) (de_ix (dv 2) de_int (fun _ _ => rfl)) (nomark _)))) da_nil)))))) fun ds μ Q E h => read_are_costs ds μ Q E h
theorem ok__law_odd (T : All K mg w.params) (Bm : BM base mg) : FnD P w base T._law_odd 3 sp__law_odd := by
  have F__law_of := ok__law_of (P := P) (w := w) (base := base) T Bm
  exact def_ok (k := 2) T._law_odd.F sc__law_odd _ (len_of (n := 1) len__law_odd) (fun cdv A outer s H E hq hr => (dss_cons (ds_set (i := 1) sc__law_odd.nd rfl (by first | exact Or.inl rfl | exact Or.inr rfl) (de_def F__law_of hq hr (da_cons (dv 0) (da_cons (de_lst (da_cons de_non (da_cons de_bl (da_cons de_bl (da_cons de_int (da_cons (de_neg de_int) (da_cons (de_op op_powW lr_i2 de_int de_int) (da_cons (de_tup da_nil) (da_cons (de_lst da_nil) (da_cons de_dict0S (da_cons (de_tup (da_cons de_str da_nil)) (da_cons (de_lst (da_cons de_str da_nil)) (da_cons (de_dispS (dps_cons de_str de_str dps_nil) rfl rfl (by simp) (by decide) (by decide)) (da_cons (de_tup (da_cons de_str (da_cons (de_tup da_nil) da_nil))) da_nil)))))))))))))) da_nil))))
    (dss_cons (ds_for PassesOwn.never rfl (di_range1 rfl T.z_range (da_cons (de_def F__law_of hq hr (da_cons (dv 0) (da_cons (de_lst (da_cons de_int (da_cons de_int (da_cons de_int (da_cons de_int (da_cons de_int da_nil)))))) da_nil))) da_nil)) (dg_name (i := 2) sc__law_odd.nd rfl (by first | exact Or.inl rfl | exact Or.inr rfl)) (dss_one (ds_set (i := 1) sc__law_odd.nd rfl (by first | exact Or.inl rfl | exact Or.inr rfl) (de_def F__law_of hq hr (da_cons (dv 0) (da_cons (de_lst (da_cons (de_tup (da_cons (dv 1) da_nil)) (da_cons (de_lst (da_cons (dv 1) da_nil)) (da_cons (de_dispS (dps_cons de_str (dv 1) dps_nil) rfl rfl (by simp) (by decide) (by decide)) (da_cons (de_tup (da_cons (dv 1) (da_cons de_str da_nil))) da_nil))))) da_nil))))))
    (dss_one (ds_ret (dv 1)))))) fun ds μ Q E h => read__law_odd ds μ Q E h
theorem ok_read_operations (T : All K mg w.params) (Bm : BM base mg) : FnX P w base T.read_operations 4 sp_read_operations := by
  have X_BadText := okx_BadText (P := P) (w := w) (base := base) T
  have F_operation_in := ok_operation_in (P := P) (w := w) (base := base) T Bm
  exact def_okR (k := 3) T.read_operations.F sc_read_operations _ len_read_operations (fun cdv A outer s H E Ex An hq hr hz => (sas_cons hz.gr (sa_if hz.gr (ta_ (dt_not (dt_val (de_callB call_isi lc_isi rfl T.z_isinstance bt_isinstance (da_cons (dv 0) (da_cons (de_ty rfl T.z_str bt_str) da_nil)))))) (sas_one (sa_raise X_BadText hq hr hz (ea de_int))) (sas dss_nil))
    (sas_cons hz.gr (sa (ds_set (i := 1) sc_read_operations.nd rfl (by first | exact Or.inl rfl | exact Or.inr rfl) (de_lstM da_nil)))
    (sas_cons hz.gr (sa_for hz.gr (passes_of rfl) rfl (di_enum rfl T.z_enumerate (da_cons (de_ifExp (dt_cmp (opr_ne (unit64 hr)) lr_ne (dv 0) de_str (nomark _)) (de_split (dv 0) (de_gstr T.c_FEED)) (de_lst da_nil)) da_nil)) (dg_tup rfl (dgs_cons (dg_name (i := 2) sc_read_operations.nd rfl (by first | exact Or.inl rfl | exact Or.inr rfl)) (dgs_cons (dg_name (i := 3) sc_read_operations.nd rfl (by first | exact Or.inl rfl | exact Or.inr rfl)) dgs_nil))) (sas_cons hz.gr (sa (ds_set (i := 4) sc_read_operations.nd rfl (by first | exact Or.inl rfl | exact Or.inr rfl) (de_def F_operation_in hq hr (da_cons (dv 3) da_nil))))
    (sas_cons hz.gr (sa_if hz.gr (ta_ (PW.pt (dw_or (dt_isN (dv 4)) (dw_or1 (dt_cmp (opr_eq (unit64 hr)) lr_eq (dv 2) (de_gint T.c_MOST_OPERATIONS) (nomark _)))))) (sas_one (sa_raise X_BadText hq hr hz (ea (dv 2)))) (sas dss_nil))
    (sas_one (sa (ds_expr (de_append (dv 1) (dv 4))))))))
    (sas_one (sa (ds_ret (de_callT call_tuple_of lc_tuple rfl T.z_tuple bt_tuple (da_cons (dv 1) da_nil))))))))) fun ds μ Q E h => read_read_operations ds μ Q E h
theorem ok_tree_lines (T : All K mg w.params) (Bm : BM base mg) : ∀ n, FnD P w base T.tree_lines (n + 1) (sp_tree_lines n) := by
  intro n
  induction n with
  | zero => exact (FnG.no _ _ _).imp fun vs H Q E h => by obtain ⟨_, _, _, _, _, _, _, h, _⟩ := h; exact (no_tree_lines h).elim
  | succ n ih =>
    have F_tree_lines := ih
    exact def_ok (k := n + 1) T.tree_lines.F sc_tree_lines _ (len_of (n := 2) len_tree_lines) (fun cdv A outer s H E hq hr => (dss_cons (ds_asg (dv 0) (dg_tup rfl (dgs_cons (dg_name (i := 2) sc_tree_lines.nd rfl (by first | exact Or.inl rfl | exact Or.inr rfl)) (dgs_cons (dg_name (i := 3) sc_tree_lines.nd rfl (by first | exact Or.inl rfl | exact Or.inr rfl)) dgs_nil))))
    (dss_cons (ds_set (i := 4) sc_tree_lines.nd rfl (by first | exact Or.inl rfl | exact Or.inr rfl) (de_lstM (da_cons (de_op opr_add lr_add (de_op opr_mul lr_mul (de_gstr T.c_INDENT) (dv 1)) (dv 2)) da_nil)))
    (dss_cons (ds_for PassesOwn.never rfl (di_seq (dv 3)) (dg_name (i := 5) sc_tree_lines.nd rfl (by first | exact Or.inl rfl | exact Or.inr rfl)) (dss_one (ds_expr (de_extend (dv 4) (de_def F_tree_lines hq hr (da_cons (dv 5) (da_cons (de_op opr_add lr_add (dv 1) de_int) da_nil)))))))
    (dss_one (ds_retF (dv 4))))))) fun ds μ Q E h => read_tree_lines n ds μ Q E h
theorem ok_keys_within (T : All K mg w.params) (Bm : BM base mg) : ∀ n, FnD P w base T.keys_within (n + 2) (sp_keys_within n) := by
  have F_is_key := ok_is_key (P := P) (w := w) (base := base) T Bm
  intro n
  induction n with
  | zero => exact (FnG.no _ _ _).imp fun vs H Q E h => by obtain ⟨_, _, _, _, _, _, _, h, _⟩ := h; exact (no_keys_within h).elim
  | succ n ih =>
    have F_keys_within := ih
    exact def_ok (k := n + 2) T.keys_within.F sc_keys_within _ (len_of (n := 2) len_keys_within) (fun cdv A outer s H E hq hr => (dss_cons (ds_if (PW.pt (dw_or (dt_cmp (opr_eq (unit64 hr)) lr_eq (dv 1) de_int (nomark _)) (dw_or (dt_not (dt_val (de_callB call_isi lc_isi rfl T.z_isinstance bt_isinstance (da_cons (dv 0) (da_cons (de_ty rfl T.z_tuple bt_tuple) da_nil))))) (dw_or1 (dt_cmp (opr_ne (unit64 hr)) lr_ne (de_callB cr_len lc_len rfl T.z_len bt_len (da_cons (dv 0) da_nil)) (de_gint T.c_ELEMENT_PARTS) (nomark _)))))) (dss_one (ds_ret de_non)) dss_nil)
    (dss_cons (ds_if (PW.pt (dw_or (dt_not (dt_val (de_def F_is_key hq hr (da_cons (de_ix (dv 0) de_int (fun _ _ => rfl)) da_nil)))) (dw_or1 (dt_not (dt_val (de_callB call_isi lc_isi rfl T.z_isinstance bt_isinstance (da_cons (de_ix (dv 0) de_int (fun _ _ => rfl)) (da_cons (de_ty rfl T.z_tuple bt_tuple) da_nil)))))))) (dss_one (ds_ret de_non)) dss_nil)
    (dss_cons (ds_set (i := 2) sc_keys_within.nd rfl (by first | exact Or.inl rfl | exact Or.inr rfl) (de_lstM (da_cons (de_ix (dv 0) de_int (fun _ _ => rfl)) da_nil)))
    (dss_cons (ds_for PassesOwn.never rfl (di_seq (de_ix (dv 0) de_int (fun _ _ => rfl))) (dg_name (i := 3) sc_keys_within.nd rfl (by first | exact Or.inl rfl | exact Or.inr rfl)) (dss_cons (ds_set (i := 4) sc_keys_within.nd rfl (by first | exact Or.inl rfl | exact Or.inr rfl) (de_def F_keys_within hq hr (da_cons (dv 3) (da_cons (de_op op_sub lr_sub (dv 1) de_int) da_nil))))
    (dss_cons (ds_if (dt_isN (dv 4)) (dss_one (ds_ret de_non)) dss_nil)
    (dss_one (ds_expr (de_extend (dv 2) (dv 4)))))))
    (dss_one (ds_retF (dv 2)))))))) fun ds μ Q E h => read_keys_within n ds μ Q E h
theorem ok_show_tree (T : All K mg w.params) (Bm : BM base mg) : FnD P w base T.show_tree 26 sp_show_tree := by
  have F_tree_lines := ok_tree_lines (P := P) (w := w) (base := base) T Bm 24
  exact def_ok (k := 25) T.show_tree.F sc_show_tree _ (len_of (n := 1) len_show_tree) (fun cdv A outer s H E hq hr => (dss_one (ds_ret (de_join (de_gstr T.c_FEED) (de_def F_tree_lines hq hr (da_cons (dv 0) (da_cons de_int da_nil))))))) fun ds μ Q E h => read_show_tree ds μ Q E h
theorem ok_is_tree (T : All K mg w.params) (Bm : BM base mg) : FnD P w base T.is_tree 27 sp_is_tree := by
  have F_keys_within := ok_keys_within (P := P) (w := w) (base := base) T Bm 24
  exact def_ok (k := 26) T.is_tree.F sc_is_tree _ (len_of (n := 1) len_is_tree) (fun cdv A outer s H E hq hr => (dss_cons (ds_set (i := 1) sc_is_tree.nd rfl (by first | exact Or.inl rfl | exact Or.inr rfl) (de_def F_keys_within hq hr (da_cons (dv 0) (da_cons (de_gint T.c_MOST_NESTED) da_nil))))
    (dss_one (ds_ret (de_and (de_notN (dv 1)) (de_and (de_cmp opr_le lr_cmp (de_callB cr_len lc_len rfl T.z_len bt_len (da_cons (dv 1) da_nil)) (de_gint T.c_MOST_ELEMENTS) (nomark _)) (de_one (de_cmp (opr_eq (unit64 hr)) lr_eq (de_lenSet rfl T.z_len rfl T.z_set (dv 1)) (de_callB cr_len lc_len rfl T.z_len bt_len (da_cons (dv 1) da_nil)) (nomark _))))))))) fun ds μ Q E h => read_is_tree ds μ Q E h
theorem ok_Desk_say_question (T : All K mg w.params) (Bm : BM base mg) : FnMX P w base T.m_Desk_say_question 27 sp_Desk_say_question := by
  have F_View_focused := ok_View_focused (P := P) (w := w) (base := base) T Bm
  have F_View_tree := ok_View_tree (P := P) (w := w) (base := base) T Bm
  have F_View___len__ := ok_View___len__ (P := P) (w := w) (base := base) T Bm
  have F_listed := ok_listed (P := P) (w := w) (base := base) T Bm
  have F_path_of := ok_path_of (P := P) (w := w) (base := base) T Bm
  have F_children_of := ok_children_of (P := P) (w := w) (base := base) T Bm
  have F_View_spent := ok_View_spent (P := P) (w := w) (base := base) T Bm
  have F_show_tree := ok_show_tree (P := P) (w := w) (base := base) T Bm
  exact def_okRM (k := 26) T.m_Desk_say_question.F sc_Desk_say_question _ len_Desk_say_question (fun cdv A outer s H E Ex An hq hr hz => (sas (dss_cons (ds_set (i := 2) sc_Desk_say_question.nd rfl (by first | exact Or.inl rfl | exact Or.inr rfl) (de_attr T.o_Desk T.n_Desk_held_view (dv 0)))
    (dss_cons (ds_if (dt_cmp (opr_eq (unit64 hr)) lr_eq (de_ix (dv 1) de_int (fun _ _ => rfl)) de_str (nomark _)) (dss_one (ds_ret (de_join de_str (de_split (de_def F_show_tree hq hr (da_cons (de_meth0 (M := T.m_View_tree) F_View_tree hq hr (dv 2)) da_nil)) (de_gstr T.c_FEED))))) dss_nil)
    (dss_cons (ds_if (dt_cmp opr_in lr_in (de_ix (dv 1) de_int (fun _ _ => rfl)) (de_tup (da_cons de_str (da_cons de_str da_nil))) (by with_unfolding_all rfl)) (dss_one (ds_ret (de_callT cr_strOf lc_strOf rfl T.z_str bt_str (da_cons (de_ifExp (dt_cmp (opr_eq (unit64 hr)) lr_eq (de_ix (dv 1) de_int (fun _ _ => rfl)) de_str (nomark _)) (de_meth0 (M := T.m_View_spent) F_View_spent hq hr (dv 2)) (de_lenO (M := T.m_View___len__) F_View___len__ hq hr (da_cons (dv 2) da_nil) (hm := T.z_len))) da_nil)))) dss_nil)
    (dss_cons (ds_if (dt_cmp (opr_eq (unit64 hr)) lr_eq (de_ix (dv 1) de_int (fun _ _ => rfl)) de_str (nomark _)) (dss_one (ds_ret (de_def F_listed hq hr (da_cons (de_meth0 (M := T.m_View_focused) F_View_focused hq hr (dv 2)) (da_cons (de_gstr T.c_BLANK) da_nil))))) dss_nil)
    (dss_cons (ds_if (dt_cmp (opr_eq (unit64 hr)) lr_eq (de_ix (dv 1) de_int (fun _ _ => rfl)) de_str (nomark _)) (dss_one (ds_ret (de_def F_listed hq hr (da_cons (de_def F_children_of hq hr (da_cons (de_meth0 (M := T.m_View_tree) F_View_tree hq hr (dv 2)) (da_cons (de_ix (dv 1) de_int (fun _ _ => rfl)) da_nil))) (da_cons (de_gstr T.c_BLANK) da_nil))))) dss_nil)
    (dss_one (ds_ret (de_def F_listed hq hr (da_cons (de_def F_path_of hq hr (da_cons (de_meth0 (M := T.m_View_tree) F_View_tree hq hr (dv 2)) (da_cons (de_ix (dv 1) de_int (fun _ _ => rfl)) da_nil))) (da_cons (de_gstr T.c_BLANK) da_nil)))))))))))) fun ds μ Q E h => read_Desk_say_question ds μ Q E h
theorem ok_View_init (T : All K mg w.params) (Bm : BM base mg) : FnIVX P w base T.i_View 28 sp_View_init := by
  have X_BadCosts := okx_BadCosts (P := P) (w := w) (base := base) T
  have X_BadTree := okx_BadTree (P := P) (w := w) (base := base) T
  have F_is_tree := ok_is_tree (P := P) (w := w) (base := base) T Bm
  have F_are_costs := ok_are_costs (P := P) (w := w) (base := base) T Bm
  exact def_okRV (k := 27) T.i_View.F sc_View_init _ len_View_init (fun cdv A outer s H E Ex An hq hr hz => (sas_cons hz.gr (sa_if hz.gr (ta_ (dt_not (dt_val (de_def F_is_tree hq hr (da_cons (dv 1) da_nil))))) (sas_one (sa_raise X_BadTree hq hr hz (ea (dv 1)))) (sas dss_nil))
    (sas_cons hz.gr (sa_if hz.gr (ta_ (dt_not (dt_val (de_def F_are_costs hq hr (da_cons (dv 2) da_nil))))) (sas_one (sa_raise X_BadCosts hq hr hz (ea (dv 2)))) (sas dss_nil))
    (sas_cons hz.gr (sa (ds_putA T.o_View T.n_View_present (dv 0) (de_tup (da_cons (dv 1) (da_cons (dv 2) (da_cons (de_tup da_nil) (da_cons de_int da_nil)))))))
    (sas_one (sa (ds_putA T.o_View T.n_View_past (dv 0) (de_lstM da_nil)))))))) fun ds μ Q E h => read_View_init ds μ Q E h
theorem ok_Desk_say (T : All K mg w.params) (Bm : BM base mg) : FnMX P w base T.m_Desk_say 28 sp_Desk_say := by
  have X_BadLine := okx_BadLine (P := P) (w := w) (base := base) T
  have F_Desk_say_price := ok_Desk_say_price (P := P) (w := w) (base := base) T Bm
  have F_is_key := ok_is_key (P := P) (w := w) (base := base) T Bm
  have F_Desk_say_question := ok_Desk_say_question (P := P) (w := w) (base := base) T Bm
  have F_Desk_say_change := ok_Desk_say_change (P := P) (w := w) (base := base) T Bm
  have F_Desk_say_tree := ok_Desk_say_tree (P := P) (w := w) (base := base) T Bm
  exact def_okRM (k := 27) T.m_Desk_say.F sc_Desk_say _ len_Desk_say (fun cdv A outer s H E Ex An hq hr hz => (sas_cons hz.gr (sa_if hz.gr (ta_ (dt_not (dt_val (de_callB call_isi lc_isi rfl T.z_isinstance bt_isinstance (da_cons (dv 1) (da_cons (de_ty rfl T.z_str bt_str) da_nil)))))) (sas_one (sa_raise X_BadLine hq hr hz (ea (dv 1)))) (sas dss_nil))
    (sas_cons hz.gr (sa (ds_asg (de_part (dv 1) (de_gstr T.c_FEED)) (dg_tup rfl (dgs_cons (dg_name (i := 2) sc_Desk_say.nd rfl (by first | exact Or.inl rfl | exact Or.inr rfl)) (dgs_cons (dg_name (i := 3) sc_Desk_say.nd rfl (by first | exact Or.inl rfl | exact Or.inr rfl)) (dgs_cons (dg_name (i := 4) sc_Desk_say.nd rfl (by first | exact Or.inl rfl | exact Or.inr rfl)) dgs_nil))))))
    (sas_cons hz.gr (sa_if hz.gr (ta_ (PW.pt (dw_and (dt_cmp opr_in lr_in (dv 2) (de_tup (da_cons de_str (da_cons de_str da_nil))) (by with_unfolding_all rfl)) (dw_and1 (dt_cmp (opr_ne (unit64 hr)) lr_ne (dv 3) de_str (nomark _)))))) (sas_one (sa_ret (ea_meth (M := T.m_Desk_say_tree) F_Desk_say_tree hq hr hz (ea (dv 0)) (aa (da_cons (dv 1) (da_cons (dv 2) (da_cons (dv 4) da_nil))))))) (sas dss_nil))
    (sas_cons hz.gr (sa (ds_set (i := 5) sc_Desk_say.nd rfl (by first | exact Or.inl rfl | exact Or.inr rfl) (de_split (dv 1) (de_gstr T.c_BLANK))))
    (sas_cons hz.gr (sa_if hz.gr (ta_ (dt_cmp (opr_eq (unit64 hr)) lr_eq (de_ix (dv 5) de_int (fun _ _ => rfl)) de_str (nomark _))) (sas_one (sa_ret (ea_meth (M := T.m_Desk_say_price) F_Desk_say_price hq hr hz (ea (dv 0)) (aa (da_cons (dv 1) (da_cons (dv 5) da_nil)))))) (sas dss_nil))
    (sas_cons hz.gr (sa_if hz.gr (ta_ (PW.pt (dw_or (dt_cmp (opr_ne (unit64 hr)) lr_ne (de_gGet T.g_KEY_COUNTS (de_ix (dv 5) de_int (fun _ _ => rfl)) ⟨by rfl, by rfl, by rfl, by rfl⟩ pe_negc) (de_op op_sub lr_sub (de_callB cr_len lc_len rfl T.z_len bt_len (da_cons (dv 5) da_nil)) de_int) (nomark _)) (dw_or1 (dt_not (dt_val (de_callB (cr_all rfl) lc_all rfl T.z_all bt_all (da_cons (de_lc (own := [("key", 6)]) rfl sc_Desk_say.nd (blkOk_by (show blkC ["self", "line", "word", "feed", "text", "words", "key"] (defScope s_Desk_say) _ [("key", 6)] = true by decide +kernel)) (own_name (by decide)) (di_seq (de_slice (dv 5) (do_some de_int) do_none)) (fun _ _ _ _ _ => (pg_name (i := 6) sc_Desk_say.nd rfl (by first | exact Or.inl rfl | exact Or.inr rfl) (by first | exact .inl rfl | exact .inr rfl))) (fun _ _ _ _ _ => dts_nil) (fun _ _ _ _ _ => (de_def F_is_key hq hr (da_cons (dv 6) da_nil)))) da_nil)))))))) (sas_one (sa_raise X_BadLine hq hr hz (ea (dv 1)))) (sas dss_nil))
    (sas_cons hz.gr (sa_if hz.gr (ta_ (dt_cmp opr_in lr_in (de_ix (dv 5) de_int (fun _ _ => rfl)) (de_tup (da_cons de_str (da_cons de_str (da_cons de_str da_nil)))) (by with_unfolding_all rfl))) (sas_one (sa_ret (ea_meth (M := T.m_Desk_say_change) F_Desk_say_change hq hr hz (ea (dv 0)) (aa (da_cons (dv 5) da_nil))))) (sas dss_nil))
    (sas_one (sa_ret (ea_meth (M := T.m_Desk_say_question) F_Desk_say_question hq hr hz (ea (dv 0)) (aa (da_cons (dv 5) da_nil))))))))))))) fun ds μ Q E h => read_Desk_say ds μ Q E h
theorem ok__law_line (T : All K mg w.params) (Bm : BM base mg) : FnD P w base T._law_line 29 sp__law_line := by
  have F_Desk_say := ok_Desk_say (P := P) (w := w) (base := base) T Bm
  exact def_ok (k := 28) T._law_line.F sc__law_line _ (len_of (n := 2) len__law_line) (fun cdv A outer s H E hq hr => (dss_cons (ds_set (i := 2) sc__law_line.nd rfl (by first | exact Or.inl rfl | exact Or.inr rfl) de_non)
    (dss_cons (ds_tryM (i := 3) (j := 2) (M := T.m_Desk_say) F_Desk_say hq hr rfl rfl rfl sc__law_line.nd ⟨rfl, by decide, .inl T.m_KeyedError⟩ T.exm_KeyedError rfl rfl rfl (by first | exact Or.inl rfl | exact Or.inr rfl | exact Or.inr (Or.inl rfl) | exact Or.inr (Or.inr rfl)) (by first | exact Or.inl rfl | exact Or.inr rfl | exact Or.inr (Or.inl rfl) | exact Or.inr (Or.inr rfl)) (fun _ _ => (dv 0)) (fun _ _ => (da_cons (dv 1) da_nil)))
    (dss_cons (ds_if (PW.pt (dw_or (dt_not (dt_val (de_isX (dv 2) rfl T.z_isinstance rfl T.m_BadLine T.kit_BadLine))) (dw_or1 (dt_val (de_isXTup (cs := [T.a_BadText, T.a_BadTree]) (dv 2) (da_cons (de_glob (d := .ref T.a_BadText) (v := .ref T.a_BadText) rfl T.m_BadText rfl rfl) (da_cons (de_glob (d := .ref T.a_BadTree) (v := .ref T.a_BadTree) rfl T.m_BadTree rfl rfl) da_nil)) (KitsX.cons T.kit_BadText (KitsX.cons T.kit_BadTree KitsX.nil)) T.z_isinstance (by show 2 ≤ sizeLine; decide)))))) (dss_one (ds_ret de_str)) dss_nil)
    (dss_one (ds_ret (de_callB (cr_reprV hq (unit66 hr)) lc_reprV rfl T.z_repr bt_repr (da_cons (de_fld (dv 2)) da_nil)))))))) fun ds μ Q E h => read__law_line ds μ Q E h
theorem ok_tree_from (T : All K mg w.params) (Bm : BM base mg) : ∀ n, FnD P w base T.tree_from (n + 1) (sp_tree_from n) := by
  intro n
  induction n with
  | zero => exact (FnG.no _ _ _).imp fun vs H Q E h => by obtain ⟨_, _, _, _, _, _, _, h, _⟩ := h; exact (no_tree_from h).elim
  | succ n ih =>
    have F_tree_from := ih
    exact def_ok (k := n + 1) T.tree_from.F sc_tree_from _ (len_of (n := 2) len_tree_from) (fun cdv A outer s H E hq hr => (dss_one (ds_ret (de_tup (da_cons (dv 0) (da_cons (de_callT call_tuple_of lc_tuple rfl T.z_tuple bt_tuple (da_cons (de_lc (own := [("child", 2)]) rfl sc_tree_from.nd (blkOk_by (show blkC ["key", "children", "child"] (defScope s_tree_from) _ [("child", 2)] = true by decide +kernel)) (own_name (by decide)) (di_seq (de_dget (hu_of hr) (dv 1) (dv 0) (fun _ _ => rfl))) (fun _ _ _ _ _ => (pg_name (i := 2) sc_tree_from.nd rfl (by first | exact Or.inl rfl | exact Or.inr rfl) (by first | exact .inl rfl | exact .inr rfl))) (fun _ _ _ _ _ => dts_nil) (fun _ _ _ _ _ => (de_def F_tree_from hq hr (da_cons (dv 2) (da_cons (dv 1) da_nil))))) da_nil)) da_nil)))))) fun ds μ Q E h => read_tree_from n ds μ Q E h
theorem ok_read_tree (T : All K mg w.params) (Bm : BM base mg) : FnX P w base T.read_tree 72 sp_read_tree := by
  have X_BadText := okx_BadText (P := P) (w := w) (base := base) T
  have F_TreeReader_init := ok_TreeReader_init (P := P) (w := w) (base := base) T Bm
  have F_TreeReader_add := ok_TreeReader_add (P := P) (w := w) (base := base) T Bm
  have F_TreeReader_can_follow := ok_TreeReader_can_follow (P := P) (w := w) (base := base) T Bm
  have F_tree_from := ok_tree_from (P := P) (w := w) (base := base) T Bm 70
  have F_split_line := ok_split_line (P := P) (w := w) (base := base) T Bm
  exact def_okR (k := 71) T.read_tree.F sc_read_tree _ len_read_tree (fun cdv A outer s H E Ex An hq hr hz => (sas_cons hz.gr (sa_if hz.gr (ta_ (dt_not (dt_val (de_callB call_isi lc_isi rfl T.z_isinstance bt_isinstance (da_cons (dv 0) (da_cons (de_ty rfl T.z_str bt_str) da_nil)))))) (sas_one (sa_raise X_BadText hq hr hz (ea de_int))) (sas dss_nil))
    (sas_cons hz.gr (sa (ds_set (i := 1) sc_read_tree.nd rfl (by first | exact Or.inl rfl | exact Or.inr rfl) (de_mkC0 (M := T.i_TreeReader) F_TreeReader_init hq hr)))
    (sas_cons hz.gr (sa_for hz.gr (passes_of rfl) rfl (di_enum rfl T.z_enumerate (da_cons (de_split (dv 0) (de_gstr T.c_FEED)) da_nil)) (dg_tup rfl (dgs_cons (dg_name (i := 2) sc_read_tree.nd rfl (by first | exact Or.inl rfl | exact Or.inr rfl)) (dgs_cons (dg_name (i := 3) sc_read_tree.nd rfl (by first | exact Or.inl rfl | exact Or.inr rfl)) dgs_nil))) (sas_cons hz.gr (sa (ds_set (i := 4) sc_read_tree.nd rfl (by first | exact Or.inl rfl | exact Or.inr rfl) (de_def F_split_line hq hr (da_cons (dv 3) da_nil))))
    (sas_cons hz.gr (sa_if hz.gr (ta_ (PW.pt (dw_or (dt_isN (dv 4)) (dw_or1 (dt_not (dt_val (de_meth (M := T.m_TreeReader_can_follow) F_TreeReader_can_follow hq hr (dv 1) (da_cons (de_ix (dv 4) de_int (fun _ _ => rfl)) (da_cons (de_ix (dv 4) de_int (fun _ _ => rfl)) da_nil))))))))) (sas_one (sa_raise X_BadText hq hr hz (ea (dv 2)))) (sas dss_nil))
    (sas_one (sa (ds_expr (de_meth (M := T.m_TreeReader_add) F_TreeReader_add hq hr (dv 1) (da_cons (de_ix (dv 4) de_int (fun _ _ => rfl)) (da_cons (de_ix (dv 4) de_int (fun _ _ => rfl)) da_nil)))))))))
    (sas_one (sa (ds_ret (de_def F_tree_from hq hr (da_cons (de_ix (de_attr T.o_TreeReader T.n_TreeReader_way (dv 1)) de_int (fun _ _ => rfl)) (da_cons (de_attr T.o_TreeReader T.n_TreeReader_child_keys (dv 1)) da_nil)))))))))) fun ds μ Q E h => read_read_tree ds μ Q E h
theorem ok_Desk_init (T : All K mg w.params) (Bm : BM base mg) : FnIX P w base T.i_Desk 73 sp_Desk_init := by
  have F_View_init := ok_View_init (P := P) (w := w) (base := base) T Bm
  have F_read_tree := ok_read_tree (P := P) (w := w) (base := base) T Bm
  exact def_okRM (k := 72) T.i_Desk.F sc_Desk_init _ len_Desk_init (fun cdv A outer s H E Ex An hq hr hz => (sas_one (sa_asg hz.gr (ea_mkC1 (M := T.i_View) T.v_View F_View_init hq hr hz (aa_cons hz.gr (ea_def F_read_tree hq hr hz (aa (da_cons (dv 1) da_nil))) aa_nil)) (dg_fld T.o_Desk T.n_Desk_held_view (dv 0))))) fun ds μ Q E h => read_Desk_init ds μ Q E h
theorem ok_law (T : All K mg w.params) (Bm : BM base mg) : FnD P w base T.law 77 sp_law := by
  have F_Desk_init := ok_Desk_init (P := P) (w := w) (base := base) T Bm
  have F_read_operations := ok_read_operations (P := P) (w := w) (base := base) T Bm
  have F__law_line := ok__law_line (P := P) (w := w) (base := base) T Bm
  have F__law_odd := ok__law_odd (P := P) (w := w) (base := base) T Bm
  have F_read_tree := ok_read_tree (P := P) (w := w) (base := base) T Bm
  have F__law_hand := ok__law_hand (P := P) (w := w) (base := base) T Bm
  have F_Desk_say := ok_Desk_say (P := P) (w := w) (base := base) T Bm
  exact def_okL (k := 76) T.law sc_law _ (len_of (n := 1) len_law) (fun cdv A outer s H E hq hr how => (dss_cons (ds_for PassesOwn.never rfl (di_range1 rfl T.z_range (da_cons (de_callB (call_max2 rfl) lc_i2 rfl T.z_max bt_max (da_cons de_int (da_cons (de_callB (call_min2 rfl) lc_i2 rfl T.z_min bt_min (da_cons de_int (da_cons (de_callB cr_len lc_len rfl T.z_len bt_len (da_cons (dv 0) da_nil)) da_nil))) da_nil))) da_nil)) (dg_name (i := 1) sc_law.nd rfl (by first | exact Or.inl rfl | exact Or.inr rfl)) (dss_cons (ds_par (i := 4) (j := 5) rfl sc_law.nd rfl rfl (by decide) rfl rfl (da_cons (de_def F__law_hand hq hr (da_cons (dv 0) (da_cons (dv 1) da_nil))) (da_cons (de_mkCX (M := T.i_Desk) F_Desk_init hq hr (da_cons de_str da_nil)) da_nil)) rfl)
    (dss_cons (ds_for PassesOwn.never rfl (di_range1 rfl T.z_range (da_cons de_int da_nil)) (dg_name (i := 6) sc_law.nd rfl (by first | exact Or.inl rfl | exact Or.inr rfl)) (dss_cons (ds_set (i := 7) sc_law.nd rfl (by first | exact Or.inl rfl | exact Or.inr rfl) (de_def F__law_odd hq hr (da_cons (dv 4) da_nil)))
    (dss_cons (ds_set (i := 8) sc_law.nd rfl (by first | exact Or.inl rfl | exact Or.inr rfl) (de_callB (cr_reprV hq (unit66 hr)) lc_reprV rfl T.z_repr bt_repr (da_cons (dv 7) da_nil)))
    (dss_cons (ds_set (i := 9) sc_law.nd rfl (by first | exact Or.inl rfl | exact Or.inr rfl) (de_lstM (da_cons (de_lam (D := T._law_heard) (k := 74) (ttd := sp__law_heard) Bm how hq hr (fun cdv2 => gv__law_heard (X := (cxOf CX0 P w K mg base ["_law_script", "_law_k", "_law_written", "_law_line_here", "_law_hand_here", "_law_desk", "_law_turn", "_law_odd_here", "_law_before", "_law_told"] "law" (defScope s_law) T.law.f cdv A outer s H E).nox) T cdv2 hq (hr.mono (by omega))) sc__law_heard (LamX.lamS_by (show LamX.lamSB (defScope s_law) _ = true by decide +kernel)) (fun A outer s H E f c' An Ex hq hr hz => (ea_def F_read_tree hq hr hz (aa (da_cons (dv 7) da_nil))))) da_nil)))
    (dss_cons (ds_expr (de_append (dv 9) (de_lam (D := T._law_heard) (k := 74) (ttd := sp__law_heard) Bm how hq hr (fun cdv2 => gv__law_heard (X := (cxOf CX0 P w K mg base ["_law_script", "_law_k", "_law_written", "_law_line_here", "_law_hand_here", "_law_desk", "_law_turn", "_law_odd_here", "_law_before", "_law_told"] "law" (defScope s_law) T.law.f cdv A outer s H E).nox) T cdv2 hq (hr.mono (by omega))) sc__law_heard (LamX.lamS_by (show LamX.lamSB (defScope s_law) _ = true by decide +kernel)) (fun A outer s H E f c' An Ex hq hr hz => (ea_def F_read_operations hq hr hz (aa (da_cons (dv 7) da_nil)))))))
    (dss_cons (ds_expr (de_append (dv 9) (de_lam (D := T._law_heard) (k := 74) (ttd := sp__law_heard) Bm how hq hr (fun cdv2 => gv__law_heard (X := (cxOf CX0 P w K mg base ["_law_script", "_law_k", "_law_written", "_law_line_here", "_law_hand_here", "_law_desk", "_law_turn", "_law_odd_here", "_law_before", "_law_told"] "law" (defScope s_law) T.law.f cdv A outer s H E).nox) T cdv2 hq (hr.mono (by omega))) sc__law_heard (LamX.lamS_by (show LamX.lamSB (defScope s_law) _ = true by decide +kernel)) (fun A outer s H E f c' An Ex hq hr hz => (ea_mkC (M := T.i_Desk) F_Desk_init hq hr hz (aa (da_cons (dv 7) da_nil)))))))
    (dss_one (ds_if (PW.pt (dw_or (dt_cmp (opr_ne (unit64 hr)) lr_ne (dv 9) (de_op opr_mul lr_mul (de_lst (da_cons (de_tup (da_cons de_str (da_cons de_int da_nil))) da_nil)) de_int) (nomark _)) (dw_or (dt_cmp (opr_ne (unit64 hr)) lr_ne (de_def F__law_line hq hr (da_cons (dv 5) (da_cons (dv 7) da_nil))) (dv 8) (nomark _)) (dw_or1 (dt_cmp (opr_ne (unit64 hr)) lr_ne (de_callB (cr_reprV hq (unit66 hr)) lc_reprV rfl T.z_repr bt_repr (da_cons (dv 7) da_nil)) (dv 8) (nomark _)))))) (dss_one (ds_ret de_bl)) dss_nil))))))))
    (dss_one (ds_if (PW.pt (dw_or (dt_cmp (opr_ne (unit64 hr)) lr_ne (de_methX (M := T.m_Desk_say) F_Desk_say hq hr (dv 5) (da_cons de_str da_nil)) de_str (nomark _)) (dw_or1 (dt_cmp (opr_ne (unit64 hr)) lr_ne (de_methX (M := T.m_Desk_say) F_Desk_say hq hr (dv 5) (da_cons de_str da_nil)) de_str (nomark _))))) (dss_one (ds_ret de_bl)) dss_nil)))))
    (dss_cons (ds_for PassesOwn.never rfl (di_seq (de_tup (da_cons (de_tup (da_cons de_str (da_cons de_int da_nil))) (da_cons (de_tup (da_cons de_str (da_cons de_int da_nil))) (da_cons (de_tup (da_cons de_str (da_cons de_int da_nil))) (da_cons (de_tup (da_cons de_str (da_cons de_int da_nil))) (da_cons (de_tup (da_cons de_str (da_cons de_int da_nil))) da_nil))))))) (dg_tup rfl (dgs_cons (dg_name (i := 2) sc_law.nd rfl (by first | exact Or.inl rfl | exact Or.inr rfl)) (dgs_cons (dg_name (i := 3) sc_law.nd rfl (by first | exact Or.inl rfl | exact Or.inr rfl)) dgs_nil))) (dss_one (ds_if (dt_cmp (opr_ne (unit64 hr)) lr_ne (de_lam (D := T._law_heard) (k := 74) (ttd := sp__law_heard) Bm how hq hr (fun cdv2 => gv__law_heard (X := (cxOf CX0 P w K mg base ["_law_script", "_law_k", "_law_written", "_law_line_here", "_law_hand_here", "_law_desk", "_law_turn", "_law_odd_here", "_law_before", "_law_told"] "law" (defScope s_law) T.law.f cdv A outer s H E).nox) T cdv2 hq (hr.mono (by omega))) sc__law_heard (LamX.lamS_by (show LamX.lamSB (defScope s_law) _ = true by decide +kernel)) (fun A outer s H E f c' An Ex hq hr hz => (ea_mkC (M := T.i_Desk) F_Desk_init hq hr hz (aa (da_cons (dv 2) da_nil))))) (de_tup (da_cons de_str (da_cons (dv 3) da_nil))) (nomark _)) (dss_one (ds_ret de_bl)) dss_nil)))
    (dss_one (ds_ret de_bl))))) fun ds μ Q E h => read_law ds μ Q E h
end
theorem all_mk {l : PySem.W.OpenLaw} {w : World} {K : PySem.W.Frag} {h : Heap} {mg : Str → Option Value} {fa f0 f1 f2 f3 f4 f5 f6 f7 f8 f9 f10 f11 f12 f13 f14 f15 f16 f17 f18 f19 f20 f21 f22 f23 f24 f25 f26 f27 f28 f29 f30 f31 f32 f33 f34 f35 f36 : Addr} (X : K.In h) (G : h.Ns mainGlobals mg) (hfa : mg "law" = some (.ref fa))
    {O0 : Addr} (oa0 : PySem.W.nsIn K mainGlobals "TreeReader" = some (some (.ref O0))) (og0 : PySem.W.plainGet K O0 Str.empty = true) (oh0 : PySem.W.hasDictIn K O0 = true) (oo0 : PySem.W.plainOver K O0 = true) (os0 : PySem.W.findIn K (.ref O0) "__setattr__" = some (some (.builtin "object.__setattr__"))) (om0 : PySem.W.makesIn K O0 = true) (ok0 : PySem.W.keepIn K (.ref O0) = true)
    (on0_child_keys : PySem.W.findIn K (.ref O0) "child_keys" = some none) (on0_way : PySem.W.findIn K (.ref O0) "way" = some none)
    {O1 : Addr} (oa1 : PySem.W.nsIn K mainGlobals "View" = some (some (.ref O1))) (og1 : PySem.W.plainGet K O1 Str.empty = true) (oh1 : PySem.W.hasDictIn K O1 = true) (oo1 : PySem.W.plainOver K O1 = true) (os1 : PySem.W.findIn K (.ref O1) "__setattr__" = some (some (.builtin "object.__setattr__"))) (om1 : PySem.W.makesIn K O1 = true) (ok1 : PySem.W.keepIn K (.ref O1) = true)
    (on1_past : PySem.W.findIn K (.ref O1) "past" = some none) (on1_present : PySem.W.findIn K (.ref O1) "present" = some none)
    {O2 : Addr} (oa2 : PySem.W.nsIn K mainGlobals "Desk" = some (some (.ref O2))) (og2 : PySem.W.plainGet K O2 Str.empty = true) (oh2 : PySem.W.hasDictIn K O2 = true) (oo2 : PySem.W.plainOver K O2 = true) (os2 : PySem.W.findIn K (.ref O2) "__setattr__" = some (some (.builtin "object.__setattr__"))) (om2 : PySem.W.makesIn K O2 = true) (ok2 : PySem.W.keepIn K (.ref O2) = true)
    (on2_held_view : PySem.W.findIn K (.ref O2) "held_view" = some none)
    {od0 an0 : Option Addr} {sl0 : Array (Option Value)} {oc0 kV0 dc0 pm0 cd0 ct0 : Value} (a0 : PySem.W.nsIn K mainGlobals "is_key" = some (some (.ref f0))) (l0 : K.lookup f0 = some ⟨oc0, od0, .func (PySem.W.fnOf "is_key" "is_key" (defArgs s_is_key) (defBody s_is_key) (defScope s_is_key) .none kV0 dc0 pm0 an0 cd0 ct0), sl0⟩) (c0 : PySem.W.codeIn K cd0 "is_key" = true) (k0 : PySem.W.keepIn K (.ref f0) = true)
    {od1 an1 : Option Addr} {sl1 : Array (Option Value)} {oc1 kV1 dc1 pm1 cd1 ct1 : Value} (a1 : PySem.W.nsIn K mainGlobals "keys_within" = some (some (.ref f1))) (l1 : K.lookup f1 = some ⟨oc1, od1, .func (PySem.W.fnOf "keys_within" "keys_within" (defArgs s_keys_within) (defBody s_keys_within) (defScope s_keys_within) .none kV1 dc1 pm1 an1 cd1 ct1), sl1⟩) (c1 : PySem.W.codeIn K cd1 "keys_within" = true) (k1 : PySem.W.keepIn K (.ref f1) = true)
    {od2 an2 : Option Addr} {sl2 : Array (Option Value)} {oc2 kV2 dc2 pm2 cd2 ct2 : Value} (a2 : PySem.W.nsIn K mainGlobals "is_tree" = some (some (.ref f2))) (l2 : K.lookup f2 = some ⟨oc2, od2, .func (PySem.W.fnOf "is_tree" "is_tree" (defArgs s_is_tree) (defBody s_is_tree) (defScope s_is_tree) .none kV2 dc2 pm2 an2 cd2 ct2), sl2⟩) (c2 : PySem.W.codeIn K cd2 "is_tree" = true) (k2 : PySem.W.keepIn K (.ref f2) = true)
    {od3 an3 : Option Addr} {sl3 : Array (Option Value)} {oc3 kV3 dc3 pm3 cd3 ct3 : Value} (a3 : PySem.W.nsIn K mainGlobals "keys_of" = some (some (.ref f3))) (l3 : K.lookup f3 = some ⟨oc3, od3, .func (PySem.W.fnOf "keys_of" "keys_of" (defArgs s_keys_of) (defBody s_keys_of) (defScope s_keys_of) .none kV3 dc3 pm3 an3 cd3 ct3), sl3⟩) (c3 : PySem.W.codeIn K cd3 "keys_of" = true) (k3 : PySem.W.keepIn K (.ref f3) = true)
    {od4 an4 : Option Addr} {sl4 : Array (Option Value)} {oc4 kV4 dc4 pm4 cd4 ct4 : Value} (a4 : PySem.W.nsIn K mainGlobals "tree_from" = some (some (.ref f4))) (l4 : K.lookup f4 = some ⟨oc4, od4, .func (PySem.W.fnOf "tree_from" "tree_from" (defArgs s_tree_from) (defBody s_tree_from) (defScope s_tree_from) .none kV4 dc4 pm4 an4 cd4 ct4), sl4⟩) (c4 : PySem.W.codeIn K cd4 "tree_from" = true) (k4 : PySem.W.keepIn K (.ref f4) = true)
    {od5 an5 : Option Addr} {sl5 : Array (Option Value)} {oc5 kV5 dc5 pm5 cd5 ct5 : Value} (a5 : PySem.W.nsIn K mainGlobals "children_of" = some (some (.ref f5))) (l5 : K.lookup f5 = some ⟨oc5, od5, .func (PySem.W.fnOf "children_of" "children_of" (defArgs s_children_of) (defBody s_children_of) (defScope s_children_of) .none kV5 dc5 pm5 an5 cd5 ct5), sl5⟩) (c5 : PySem.W.codeIn K cd5 "children_of" = true) (k5 : PySem.W.keepIn K (.ref f5) = true)
    {od6 an6 : Option Addr} {sl6 : Array (Option Value)} {oc6 kV6 dc6 pm6 cd6 ct6 : Value} (a6 : PySem.W.nsIn K mainGlobals "path_of" = some (some (.ref f6))) (l6 : K.lookup f6 = some ⟨oc6, od6, .func (PySem.W.fnOf "path_of" "path_of" (defArgs s_path_of) (defBody s_path_of) (defScope s_path_of) .none kV6 dc6 pm6 an6 cd6 ct6), sl6⟩) (c6 : PySem.W.codeIn K cd6 "path_of" = true) (k6 : PySem.W.keepIn K (.ref f6) = true)
    {od7 an7 : Option Addr} {sl7 : Array (Option Value)} {oc7 kV7 dc7 pm7 cd7 ct7 : Value} (a7 : PySem.W.nsIn K mainGlobals "is_cost" = some (some (.ref f7))) (l7 : K.lookup f7 = some ⟨oc7, od7, .func (PySem.W.fnOf "is_cost" "is_cost" (defArgs s_is_cost) (defBody s_is_cost) (defScope s_is_cost) .none kV7 dc7 pm7 an7 cd7 ct7), sl7⟩) (c7 : PySem.W.codeIn K cd7 "is_cost" = true) (k7 : PySem.W.keepIn K (.ref f7) = true)
    {od8 an8 : Option Addr} {sl8 : Array (Option Value)} {oc8 kV8 dc8 pm8 cd8 ct8 : Value} (a8 : PySem.W.nsIn K mainGlobals "are_costs" = some (some (.ref f8))) (l8 : K.lookup f8 = some ⟨oc8, od8, .func (PySem.W.fnOf "are_costs" "are_costs" (defArgs s_are_costs) (defBody s_are_costs) (defScope s_are_costs) .none kV8 dc8 pm8 an8 cd8 ct8), sl8⟩) (c8 : PySem.W.codeIn K cd8 "are_costs" = true) (k8 : PySem.W.keepIn K (.ref f8) = true)
    {od9 an9 : Option Addr} {sl9 : Array (Option Value)} {oc9 kV9 dc9 pm9 cd9 ct9 : Value} (a9 : PySem.W.nsIn K mainGlobals "tree_lines" = some (some (.ref f9))) (l9 : K.lookup f9 = some ⟨oc9, od9, .func (PySem.W.fnOf "tree_lines" "tree_lines" (defArgs s_tree_lines) (defBody s_tree_lines) (defScope s_tree_lines) .none kV9 dc9 pm9 an9 cd9 ct9), sl9⟩) (c9 : PySem.W.codeIn K cd9 "tree_lines" = true) (k9 : PySem.W.keepIn K (.ref f9) = true)
    {od10 an10 : Option Addr} {sl10 : Array (Option Value)} {oc10 kV10 dc10 pm10 cd10 ct10 : Value} (a10 : PySem.W.nsIn K mainGlobals "show_tree" = some (some (.ref f10))) (l10 : K.lookup f10 = some ⟨oc10, od10, .func (PySem.W.fnOf "show_tree" "show_tree" (defArgs s_show_tree) (defBody s_show_tree) (defScope s_show_tree) .none kV10 dc10 pm10 an10 cd10 ct10), sl10⟩) (c10 : PySem.W.codeIn K cd10 "show_tree" = true) (k10 : PySem.W.keepIn K (.ref f10) = true)
    {od11 an11 : Option Addr} {sl11 : Array (Option Value)} {oc11 kV11 dc11 pm11 cd11 ct11 : Value} (a11 : PySem.W.nsIn K mainGlobals "split_line" = some (some (.ref f11))) (l11 : K.lookup f11 = some ⟨oc11, od11, .func (PySem.W.fnOf "split_line" "split_line" (defArgs s_split_line) (defBody s_split_line) (defScope s_split_line) .none kV11 dc11 pm11 an11 cd11 ct11), sl11⟩) (c11 : PySem.W.codeIn K cd11 "split_line" = true) (k11 : PySem.W.keepIn K (.ref f11) = true)
    {od12 an12 : Option Addr} {sl12 : Array (Option Value)} {oc12 kV12 dc12 pm12 cd12 ct12 : Value} (a12 : PySem.W.nsIn K mainGlobals "read_tree" = some (some (.ref f12))) (l12 : K.lookup f12 = some ⟨oc12, od12, .func (PySem.W.fnOf "read_tree" "read_tree" (defArgs s_read_tree) (defBody s_read_tree) (defScope s_read_tree) .none kV12 dc12 pm12 an12 cd12 ct12), sl12⟩) (c12 : PySem.W.codeIn K cd12 "read_tree" = true) (k12 : PySem.W.keepIn K (.ref f12) = true)
    {od13 an13 : Option Addr} {sl13 : Array (Option Value)} {oc13 kV13 dc13 pm13 cd13 ct13 : Value} (a13 : PySem.W.nsIn K mainGlobals "operation_in" = some (some (.ref f13))) (l13 : K.lookup f13 = some ⟨oc13, od13, .func (PySem.W.fnOf "operation_in" "operation_in" (defArgs s_operation_in) (defBody s_operation_in) (defScope s_operation_in) .none kV13 dc13 pm13 an13 cd13 ct13), sl13⟩) (c13 : PySem.W.codeIn K cd13 "operation_in" = true) (k13 : PySem.W.keepIn K (.ref f13) = true)
    {od14 an14 : Option Addr} {sl14 : Array (Option Value)} {oc14 kV14 dc14 pm14 cd14 ct14 : Value} (a14 : PySem.W.nsIn K mainGlobals "read_operations" = some (some (.ref f14))) (l14 : K.lookup f14 = some ⟨oc14, od14, .func (PySem.W.fnOf "read_operations" "read_operations" (defArgs s_read_operations) (defBody s_read_operations) (defScope s_read_operations) .none kV14 dc14 pm14 an14 cd14 ct14), sl14⟩) (c14 : PySem.W.codeIn K cd14 "read_operations" = true) (k14 : PySem.W.keepIn K (.ref f14) = true)
    {od15 an15 : Option Addr} {sl15 : Array (Option Value)} {oc15 kV15 dc15 pm15 cd15 ct15 : Value} (a15 : PySem.W.nsIn K mainGlobals "listed" = some (some (.ref f15))) (l15 : K.lookup f15 = some ⟨oc15, od15, .func (PySem.W.fnOf "listed" "listed" (defArgs s_listed) (defBody s_listed) (defScope s_listed) .none kV15 dc15 pm15 an15 cd15 ct15), sl15⟩) (c15 : PySem.W.codeIn K cd15 "listed" = true) (k15 : PySem.W.keepIn K (.ref f15) = true)
    {od16 an16 : Option Addr} {sl16 : Array (Option Value)} {oc16 kV16 dc16 pm16 cd16 ct16 : Value} (a16 : PySem.W.nsIn K mainGlobals "_law_hand" = some (some (.ref f16))) (l16 : K.lookup f16 = some ⟨oc16, od16, .func (PySem.W.fnOf "_law_hand" "_law_hand" (defArgs s__law_hand) (defBody s__law_hand) (defScope s__law_hand) .none kV16 dc16 pm16 an16 cd16 ct16), sl16⟩) (c16 : PySem.W.codeIn K cd16 "_law_hand" = true) (k16 : PySem.W.keepIn K (.ref f16) = true)
    {od17 an17 : Option Addr} {sl17 : Array (Option Value)} {oc17 kV17 dc17 pm17 cd17 ct17 : Value} (a17 : PySem.W.nsIn K mainGlobals "_law_take" = some (some (.ref f17))) (l17 : K.lookup f17 = some ⟨oc17, od17, .func (PySem.W.fnOf "_law_take" "_law_take" (defArgs s__law_take) (defBody s__law_take) (defScope s__law_take) .none kV17 dc17 pm17 an17 cd17 ct17), sl17⟩) (c17 : PySem.W.codeIn K cd17 "_law_take" = true) (k17 : PySem.W.keepIn K (.ref f17) = true)
    {od18 an18 : Option Addr} {sl18 : Array (Option Value)} {oc18 kV18 dc18 pm18 cd18 ct18 : Value} (a18 : PySem.W.nsIn K mainGlobals "_law_of" = some (some (.ref f18))) (l18 : K.lookup f18 = some ⟨oc18, od18, .func (PySem.W.fnOf "_law_of" "_law_of" (defArgs s__law_of) (defBody s__law_of) (defScope s__law_of) .none kV18 dc18 pm18 an18 cd18 ct18), sl18⟩) (c18 : PySem.W.codeIn K cd18 "_law_of" = true) (k18 : PySem.W.keepIn K (.ref f18) = true)
    {od19 an19 : Option Addr} {sl19 : Array (Option Value)} {oc19 kV19 dc19 pm19 cd19 ct19 : Value} (a19 : PySem.W.nsIn K mainGlobals "_law_heard" = some (some (.ref f19))) (l19 : K.lookup f19 = some ⟨oc19, od19, .func (PySem.W.fnOf "_law_heard" "_law_heard" (defArgs s__law_heard) (defBody s__law_heard) (defScope s__law_heard) .none kV19 dc19 pm19 an19 cd19 ct19), sl19⟩) (c19 : PySem.W.codeIn K cd19 "_law_heard" = true) (k19 : PySem.W.keepIn K (.ref f19) = true)
    {od20 an20 : Option Addr} {sl20 : Array (Option Value)} {oc20 kV20 dc20 pm20 cd20 ct20 : Value} (a20 : PySem.W.nsIn K mainGlobals "_law_odd" = some (some (.ref f20))) (l20 : K.lookup f20 = some ⟨oc20, od20, .func (PySem.W.fnOf "_law_odd" "_law_odd" (defArgs s__law_odd) (defBody s__law_odd) (defScope s__law_odd) .none kV20 dc20 pm20 an20 cd20 ct20), sl20⟩) (c20 : PySem.W.codeIn K cd20 "_law_odd" = true) (k20 : PySem.W.keepIn K (.ref f20) = true)
    {od21 an21 : Option Addr} {sl21 : Array (Option Value)} {oc21 kV21 dc21 pm21 cd21 ct21 : Value} (a21 : PySem.W.nsIn K mainGlobals "_law_line" = some (some (.ref f21))) (l21 : K.lookup f21 = some ⟨oc21, od21, .func (PySem.W.fnOf "_law_line" "_law_line" (defArgs s__law_line) (defBody s__law_line) (defScope s__law_line) .none kV21 dc21 pm21 an21 cd21 ct21), sl21⟩) (c21 : PySem.W.codeIn K cd21 "_law_line" = true) (k21 : PySem.W.keepIn K (.ref f21) = true)
    {od22 an22 : Option Addr} {sl22 : Array (Option Value)} {oc22 kV22 dc22 pm22 cd22 ct22 : Value} (a22 : PySem.W.nsIn K mainGlobals "law" = some (some (.ref f22))) (l22 : K.lookup f22 = some ⟨oc22, od22, .func (PySem.W.fnOf "law" "law" (defArgs s_law) (defBody s_law) (defScope s_law) .none kV22 dc22 pm22 an22 cd22 ct22), sl22⟩) (c22 : PySem.W.codeIn K cd22 "law" = true) (k22 : PySem.W.keepIn K (.ref f22) = true)
    {od23 an23 : Option Addr} {sl23 : Array (Option Value)} {oc23 kV23 dc23 pm23 cd23 ct23 : Value} (a23 : PySem.W.findIn K (.ref O0) "__init__" = some (some (.ref f23))) (l23 : K.lookup f23 = some ⟨oc23, od23, .func (PySem.W.fnOf "__init__" "TreeReader.__init__" (defArgs s_TreeReader_init) (defBody s_TreeReader_init) (defScope s_TreeReader_init) .none kV23 dc23 pm23 an23 cd23 ct23), sl23⟩) (c23 : PySem.W.codeIn K cd23 "TreeReader.__init__" = true) (k23 : PySem.W.keepIn K (.ref f23) = true) (fn23 : PySem.W.isFn K (.ref f23) = true)
    {od24 an24 : Option Addr} {sl24 : Array (Option Value)} {oc24 kV24 dc24 pm24 cd24 ct24 : Value} (a24 : PySem.W.findIn K (.ref O0) "can_follow" = some (some (.ref f24))) (l24 : K.lookup f24 = some ⟨oc24, od24, .func (PySem.W.fnOf "can_follow" "TreeReader.can_follow" (defArgs s_TreeReader_can_follow) (defBody s_TreeReader_can_follow) (defScope s_TreeReader_can_follow) .none kV24 dc24 pm24 an24 cd24 ct24), sl24⟩) (c24 : PySem.W.codeIn K cd24 "TreeReader.can_follow" = true) (k24 : PySem.W.keepIn K (.ref f24) = true) (fn24 : PySem.W.isFn K (.ref f24) = true)
    {od25 an25 : Option Addr} {sl25 : Array (Option Value)} {oc25 kV25 dc25 pm25 cd25 ct25 : Value} (a25 : PySem.W.findIn K (.ref O0) "add" = some (some (.ref f25))) (l25 : K.lookup f25 = some ⟨oc25, od25, .func (PySem.W.fnOf "add" "TreeReader.add" (defArgs s_TreeReader_add) (defBody s_TreeReader_add) (defScope s_TreeReader_add) .none kV25 dc25 pm25 an25 cd25 ct25), sl25⟩) (c25 : PySem.W.codeIn K cd25 "TreeReader.add" = true) (k25 : PySem.W.keepIn K (.ref f25) = true) (fn25 : PySem.W.isFn K (.ref f25) = true)
    {T26 : Addr} {td26 : Option Addr} {tn26 : Nat} {ts26 : Array (Option Value)} 
    {od26 an26 : Option Addr} {sl26 : Array (Option Value)} {oc26 kV26 dc26 pm26 cd26 ct26 : Value} (a26 : PySem.W.findIn K (.ref O1) "__init__" = some (some (.ref f26))) (l26 : K.lookup f26 = some ⟨oc26, od26, .func (PySem.W.fnOf "__init__" "View.__init__" (defArgs s_View_init) (defBody s_View_init) (defScope s_View_init) (.ref T26) kV26 dc26 pm26 an26 cd26 ct26), sl26⟩) (c26 : PySem.W.codeIn K cd26 "View.__init__" = true) (k26 : PySem.W.keepIn K (.ref f26) = true) (fn26 : PySem.W.isFn K (.ref f26) = true)
    {d26 : Addr} {dd26 : Option Addr} {dn26 : Nat} {dt26 : Array (Option Value)} (e26 : K.lookup T26 = some ⟨.type "tuple", td26, .seq #[.ref d26] tn26, ts26⟩) (g26 : K.lookup d26 = some ⟨.type "tuple", dd26, .seq #[] dn26, dt26⟩)
    {od27 an27 : Option Addr} {sl27 : Array (Option Value)} {oc27 kV27 dc27 pm27 cd27 ct27 : Value} (a27 : PySem.W.findIn K (.ref O1) "__len__" = some (some (.ref f27))) (l27 : K.lookup f27 = some ⟨oc27, od27, .func (PySem.W.fnOf "__len__" "View.__len__" (defArgs s_View___len__) (defBody s_View___len__) (defScope s_View___len__) .none kV27 dc27 pm27 an27 cd27 ct27), sl27⟩) (c27 : PySem.W.codeIn K cd27 "View.__len__" = true) (k27 : PySem.W.keepIn K (.ref f27) = true) (fn27 : PySem.W.isFn K (.ref f27) = true)
    {od28 an28 : Option Addr} {sl28 : Array (Option Value)} {oc28 kV28 dc28 pm28 cd28 ct28 : Value} (a28 : PySem.W.findIn K (.ref O1) "tree" = some (some (.ref f28))) (l28 : K.lookup f28 = some ⟨oc28, od28, .func (PySem.W.fnOf "tree" "View.tree" (defArgs s_View_tree) (defBody s_View_tree) (defScope s_View_tree) .none kV28 dc28 pm28 an28 cd28 ct28), sl28⟩) (c28 : PySem.W.codeIn K cd28 "View.tree" = true) (k28 : PySem.W.keepIn K (.ref f28) = true) (fn28 : PySem.W.isFn K (.ref f28) = true)
    {od29 an29 : Option Addr} {sl29 : Array (Option Value)} {oc29 kV29 dc29 pm29 cd29 ct29 : Value} (a29 : PySem.W.findIn K (.ref O1) "focused" = some (some (.ref f29))) (l29 : K.lookup f29 = some ⟨oc29, od29, .func (PySem.W.fnOf "focused" "View.focused" (defArgs s_View_focused) (defBody s_View_focused) (defScope s_View_focused) .none kV29 dc29 pm29 an29 cd29 ct29), sl29⟩) (c29 : PySem.W.codeIn K cd29 "View.focused" = true) (k29 : PySem.W.keepIn K (.ref f29) = true) (fn29 : PySem.W.isFn K (.ref f29) = true)
    {od30 an30 : Option Addr} {sl30 : Array (Option Value)} {oc30 kV30 dc30 pm30 cd30 ct30 : Value} (a30 : PySem.W.findIn K (.ref O1) "spent" = some (some (.ref f30))) (l30 : K.lookup f30 = some ⟨oc30, od30, .func (PySem.W.fnOf "spent" "View.spent" (defArgs s_View_spent) (defBody s_View_spent) (defScope s_View_spent) .none kV30 dc30 pm30 an30 cd30 ct30), sl30⟩) (c30 : PySem.W.codeIn K cd30 "View.spent" = true) (k30 : PySem.W.keepIn K (.ref f30) = true) (fn30 : PySem.W.isFn K (.ref f30) = true)
    {od31 an31 : Option Addr} {sl31 : Array (Option Value)} {oc31 kV31 dc31 pm31 cd31 ct31 : Value} (a31 : PySem.W.findIn K (.ref O2) "__init__" = some (some (.ref f31))) (l31 : K.lookup f31 = some ⟨oc31, od31, .func (PySem.W.fnOf "__init__" "Desk.__init__" (defArgs s_Desk_init) (defBody s_Desk_init) (defScope s_Desk_init) .none kV31 dc31 pm31 an31 cd31 ct31), sl31⟩) (c31 : PySem.W.codeIn K cd31 "Desk.__init__" = true) (k31 : PySem.W.keepIn K (.ref f31) = true) (fn31 : PySem.W.isFn K (.ref f31) = true)
    {od32 an32 : Option Addr} {sl32 : Array (Option Value)} {oc32 kV32 dc32 pm32 cd32 ct32 : Value} (a32 : PySem.W.findIn K (.ref O2) "say" = some (some (.ref f32))) (l32 : K.lookup f32 = some ⟨oc32, od32, .func (PySem.W.fnOf "say" "Desk.say" (defArgs s_Desk_say) (defBody s_Desk_say) (defScope s_Desk_say) .none kV32 dc32 pm32 an32 cd32 ct32), sl32⟩) (c32 : PySem.W.codeIn K cd32 "Desk.say" = true) (k32 : PySem.W.keepIn K (.ref f32) = true) (fn32 : PySem.W.isFn K (.ref f32) = true)
    {od33 an33 : Option Addr} {sl33 : Array (Option Value)} {oc33 kV33 dc33 pm33 cd33 ct33 : Value} (a33 : PySem.W.findIn K (.ref O2) "say_tree" = some (some (.ref f33))) (l33 : K.lookup f33 = some ⟨oc33, od33, .func (PySem.W.fnOf "say_tree" "Desk.say_tree" (defArgs s_Desk_say_tree) (defBody s_Desk_say_tree) (defScope s_Desk_say_tree) .none kV33 dc33 pm33 an33 cd33 ct33), sl33⟩) (c33 : PySem.W.codeIn K cd33 "Desk.say_tree" = true) (k33 : PySem.W.keepIn K (.ref f33) = true) (fn33 : PySem.W.isFn K (.ref f33) = true)
    {od34 an34 : Option Addr} {sl34 : Array (Option Value)} {oc34 kV34 dc34 pm34 cd34 ct34 : Value} (a34 : PySem.W.findIn K (.ref O2) "say_price" = some (some (.ref f34))) (l34 : K.lookup f34 = some ⟨oc34, od34, .func (PySem.W.fnOf "say_price" "Desk.say_price" (defArgs s_Desk_say_price) (defBody s_Desk_say_price) (defScope s_Desk_say_price) .none kV34 dc34 pm34 an34 cd34 ct34), sl34⟩) (c34 : PySem.W.codeIn K cd34 "Desk.say_price" = true) (k34 : PySem.W.keepIn K (.ref f34) = true) (fn34 : PySem.W.isFn K (.ref f34) = true)
    {od35 an35 : Option Addr} {sl35 : Array (Option Value)} {oc35 kV35 dc35 pm35 cd35 ct35 : Value} (a35 : PySem.W.findIn K (.ref O2) "say_change" = some (some (.ref f35))) (l35 : K.lookup f35 = some ⟨oc35, od35, .func (PySem.W.fnOf "say_change" "Desk.say_change" (defArgs s_Desk_say_change) (defBody s_Desk_say_change) (defScope s_Desk_say_change) .none kV35 dc35 pm35 an35 cd35 ct35), sl35⟩) (c35 : PySem.W.codeIn K cd35 "Desk.say_change" = true) (k35 : PySem.W.keepIn K (.ref f35) = true) (fn35 : PySem.W.isFn K (.ref f35) = true)
    {od36 an36 : Option Addr} {sl36 : Array (Option Value)} {oc36 kV36 dc36 pm36 cd36 ct36 : Value} (a36 : PySem.W.findIn K (.ref O2) "say_question" = some (some (.ref f36))) (l36 : K.lookup f36 = some ⟨oc36, od36, .func (PySem.W.fnOf "say_question" "Desk.say_question" (defArgs s_Desk_say_question) (defBody s_Desk_say_question) (defScope s_Desk_say_question) .none kV36 dc36 pm36 an36 cd36 ct36), sl36⟩) (c36 : PySem.W.codeIn K cd36 "Desk.say_question" = true) (k36 : PySem.W.keepIn K (.ref f36) = true) (fn36 : PySem.W.isFn K (.ref f36) = true)
    {C0 N0 : Addr} {nm0 qn0 : Str} {bs0 bm0 sub0 : List Value} {sn0 : List Str} {ab0 : Bool} {col0 : Option Bool} {dd0 : Option Addr} {ka0 kb0 kc0 kd0 ke0 : Option Value} (xa0 : PySem.W.nsIn K mainGlobals "NoElement" = some (some (.ref C0))) (xl0 : K.lookup C0 = some (excClassObj nm0 qn0 C0 N0 bs0 bm0 true sn0 sub0 ab0 col0 dd0 ka0 kb0 kc0 kd0 ke0 "ValueError.__new__")) (xv0 : PySem.HandSPX.refsVE bm0 = true) (xf0 : XF K C0)
    {I0 : Addr} {xod0 xan0 : Option Addr} {xsl0 : Array (Option Value)} {xoc0 xkV0 xdc0 xpm0 xcd0 xct0 : Value} (xi0 : PySem.W.findIn K (.ref C0) "__init__" = some (some (.ref I0))) (xL0 : K.lookup I0 = some ⟨xoc0, xod0, .func (PySem.W.fnOf "__init__" "NoElement.__init__" (defArgs s_NoElement_init) (defBody s_NoElement_init) (defScope s_NoElement_init) .none xkV0 xdc0 xpm0 xan0 xcd0 xct0), xsl0⟩) (xc0 : PySem.W.codeIn K xcd0 "NoElement.__init__" = true) (xk0 : PySem.W.keepIn K (.ref I0) = true) (xt0 : PySem.W.typeIn K (.ref I0) = some (.type "function")) (xn0 : PySem.W.findIn K (.ref C0) "key" = some none)
    {C1 N1 : Addr} {nm1 qn1 : Str} {bs1 bm1 sub1 : List Value} {sn1 : List Str} {ab1 : Bool} {col1 : Option Bool} {dd1 : Option Addr} {ka1 kb1 kc1 kd1 ke1 : Option Value} (xa1 : PySem.W.nsIn K mainGlobals "DifferentRoots" = some (some (.ref C1))) (xl1 : K.lookup C1 = some (excClassObj nm1 qn1 C1 N1 bs1 bm1 true sn1 sub1 ab1 col1 dd1 ka1 kb1 kc1 kd1 ke1 "ValueError.__new__")) (xv1 : PySem.HandSPX.refsVE bm1 = true) (xf1 : XF K C1)
    (xe1 : PySem.W.excIn K C1 [.type "ValueError", .type "Exception", .type "BaseException", .type "object"] "ValueError.__new__" = true)
    {C2 N2 : Addr} {nm2 qn2 : Str} {bs2 bm2 sub2 : List Value} {sn2 : List Str} {ab2 : Bool} {col2 : Option Bool} {dd2 : Option Addr} {ka2 kb2 kc2 kd2 ke2 : Option Value} (xa2 : PySem.W.nsIn K mainGlobals "NotKept" = some (some (.ref C2))) (xl2 : K.lookup C2 = some (excClassObj nm2 qn2 C2 N2 bs2 bm2 true sn2 sub2 ab2 col2 dd2 ka2 kb2 kc2 kd2 ke2 "ValueError.__new__")) (xv2 : PySem.HandSPX.refsVE bm2 = true) (xf2 : XF K C2)
    {I2 : Addr} {xod2 xan2 : Option Addr} {xsl2 : Array (Option Value)} {xoc2 xkV2 xdc2 xpm2 xcd2 xct2 : Value} (xi2 : PySem.W.findIn K (.ref C2) "__init__" = some (some (.ref I2))) (xL2 : K.lookup I2 = some ⟨xoc2, xod2, .func (PySem.W.fnOf "__init__" "NotKept.__init__" (defArgs s_NotKept_init) (defBody s_NotKept_init) (defScope s_NotKept_init) .none xkV2 xdc2 xpm2 xan2 xcd2 xct2), xsl2⟩) (xc2 : PySem.W.codeIn K xcd2 "NotKept.__init__" = true) (xk2 : PySem.W.keepIn K (.ref I2) = true) (xt2 : PySem.W.typeIn K (.ref I2) = some (.type "function")) (xn2 : PySem.W.findIn K (.ref C2) "value" = some none)
    {C3 N3 : Addr} {nm3 qn3 : Str} {bs3 bm3 sub3 : List Value} {sn3 : List Str} {ab3 : Bool} {col3 : Option Bool} {dd3 : Option Addr} {ka3 kb3 kc3 kd3 ke3 : Option Value} (xa3 : PySem.W.nsIn K mainGlobals "Conflict" = some (some (.ref C3))) (xl3 : K.lookup C3 = some (excClassObj nm3 qn3 C3 N3 bs3 bm3 true sn3 sub3 ab3 col3 dd3 ka3 kb3 kc3 kd3 ke3 "ValueError.__new__")) (xv3 : PySem.HandSPX.refsVE bm3 = true) (xf3 : XF K C3)
    {I3 : Addr} {xod3 xan3 : Option Addr} {xsl3 : Array (Option Value)} {xoc3 xkV3 xdc3 xpm3 xcd3 xct3 : Value} (xi3 : PySem.W.findIn K (.ref C3) "__init__" = some (some (.ref I3))) (xL3 : K.lookup I3 = some ⟨xoc3, xod3, .func (PySem.W.fnOf "__init__" "Conflict.__init__" (defArgs s_Conflict_init) (defBody s_Conflict_init) (defScope s_Conflict_init) .none xkV3 xdc3 xpm3 xan3 xcd3 xct3), xsl3⟩) (xc3 : PySem.W.codeIn K xcd3 "Conflict.__init__" = true) (xk3 : PySem.W.keepIn K (.ref I3) = true) (xt3 : PySem.W.typeIn K (.ref I3) = some (.type "function")) (xn3 : PySem.W.findIn K (.ref C3) "value" = some none)
    {C4 N4 : Addr} {nm4 qn4 : Str} {bs4 bm4 sub4 : List Value} {sn4 : List Str} {ab4 : Bool} {col4 : Option Bool} {dd4 : Option Addr} {ka4 kb4 kc4 kd4 ke4 : Option Value} (xa4 : PySem.W.nsIn K mainGlobals "BadTree" = some (some (.ref C4))) (xl4 : K.lookup C4 = some (excClassObj nm4 qn4 C4 N4 bs4 bm4 true sn4 sub4 ab4 col4 dd4 ka4 kb4 kc4 kd4 ke4 "ValueError.__new__")) (xv4 : PySem.HandSPX.refsVE bm4 = true) (xf4 : XF K C4)
    {I4 : Addr} {xod4 xan4 : Option Addr} {xsl4 : Array (Option Value)} {xoc4 xkV4 xdc4 xpm4 xcd4 xct4 : Value} (xi4 : PySem.W.findIn K (.ref C4) "__init__" = some (some (.ref I4))) (xL4 : K.lookup I4 = some ⟨xoc4, xod4, .func (PySem.W.fnOf "__init__" "BadTree.__init__" (defArgs s_BadTree_init) (defBody s_BadTree_init) (defScope s_BadTree_init) .none xkV4 xdc4 xpm4 xan4 xcd4 xct4), xsl4⟩) (xc4 : PySem.W.codeIn K xcd4 "BadTree.__init__" = true) (xk4 : PySem.W.keepIn K (.ref I4) = true) (xt4 : PySem.W.typeIn K (.ref I4) = some (.type "function")) (xn4 : PySem.W.findIn K (.ref C4) "value" = some none)
    {C5 N5 : Addr} {nm5 qn5 : Str} {bs5 bm5 sub5 : List Value} {sn5 : List Str} {ab5 : Bool} {col5 : Option Bool} {dd5 : Option Addr} {ka5 kb5 kc5 kd5 ke5 : Option Value} (xa5 : PySem.W.nsIn K mainGlobals "BadCosts" = some (some (.ref C5))) (xl5 : K.lookup C5 = some (excClassObj nm5 qn5 C5 N5 bs5 bm5 true sn5 sub5 ab5 col5 dd5 ka5 kb5 kc5 kd5 ke5 "ValueError.__new__")) (xv5 : PySem.HandSPX.refsVE bm5 = true) (xf5 : XF K C5)
    {I5 : Addr} {xod5 xan5 : Option Addr} {xsl5 : Array (Option Value)} {xoc5 xkV5 xdc5 xpm5 xcd5 xct5 : Value} (xi5 : PySem.W.findIn K (.ref C5) "__init__" = some (some (.ref I5))) (xL5 : K.lookup I5 = some ⟨xoc5, xod5, .func (PySem.W.fnOf "__init__" "BadCosts.__init__" (defArgs s_BadCosts_init) (defBody s_BadCosts_init) (defScope s_BadCosts_init) .none xkV5 xdc5 xpm5 xan5 xcd5 xct5), xsl5⟩) (xc5 : PySem.W.codeIn K xcd5 "BadCosts.__init__" = true) (xk5 : PySem.W.keepIn K (.ref I5) = true) (xt5 : PySem.W.typeIn K (.ref I5) = some (.type "function")) (xn5 : PySem.W.findIn K (.ref C5) "value" = some none)
    {C6 N6 : Addr} {nm6 qn6 : Str} {bs6 bm6 sub6 : List Value} {sn6 : List Str} {ab6 : Bool} {col6 : Option Bool} {dd6 : Option Addr} {ka6 kb6 kc6 kd6 ke6 : Option Value} (xa6 : PySem.W.nsIn K mainGlobals "Root" = some (some (.ref C6))) (xl6 : K.lookup C6 = some (excClassObj nm6 qn6 C6 N6 bs6 bm6 true sn6 sub6 ab6 col6 dd6 ka6 kb6 kc6 kd6 ke6 "ValueError.__new__")) (xv6 : PySem.HandSPX.refsVE bm6 = true) (xf6 : XF K C6)
    {I6 : Addr} {xod6 xan6 : Option Addr} {xsl6 : Array (Option Value)} {xoc6 xkV6 xdc6 xpm6 xcd6 xct6 : Value} (xi6 : PySem.W.findIn K (.ref C6) "__init__" = some (some (.ref I6))) (xL6 : K.lookup I6 = some ⟨xoc6, xod6, .func (PySem.W.fnOf "__init__" "Root.__init__" (defArgs s_Root_init) (defBody s_Root_init) (defScope s_Root_init) .none xkV6 xdc6 xpm6 xan6 xcd6 xct6), xsl6⟩) (xc6 : PySem.W.codeIn K xcd6 "Root.__init__" = true) (xk6 : PySem.W.keepIn K (.ref I6) = true) (xt6 : PySem.W.typeIn K (.ref I6) = some (.type "function")) (xn6 : PySem.W.findIn K (.ref C6) "key" = some none)
    {C7 N7 : Addr} {nm7 qn7 : Str} {bs7 bm7 sub7 : List Value} {sn7 : List Str} {ab7 : Bool} {col7 : Option Bool} {dd7 : Option Addr} {ka7 kb7 kc7 kd7 ke7 : Option Value} (xa7 : PySem.W.nsIn K mainGlobals "NotFocused" = some (some (.ref C7))) (xl7 : K.lookup C7 = some (excClassObj nm7 qn7 C7 N7 bs7 bm7 true sn7 sub7 ab7 col7 dd7 ka7 kb7 kc7 kd7 ke7 "ValueError.__new__")) (xv7 : PySem.HandSPX.refsVE bm7 = true) (xf7 : XF K C7)
    {I7 : Addr} {xod7 xan7 : Option Addr} {xsl7 : Array (Option Value)} {xoc7 xkV7 xdc7 xpm7 xcd7 xct7 : Value} (xi7 : PySem.W.findIn K (.ref C7) "__init__" = some (some (.ref I7))) (xL7 : K.lookup I7 = some ⟨xoc7, xod7, .func (PySem.W.fnOf "__init__" "NotFocused.__init__" (defArgs s_NotFocused_init) (defBody s_NotFocused_init) (defScope s_NotFocused_init) .none xkV7 xdc7 xpm7 xan7 xcd7 xct7), xsl7⟩) (xc7 : PySem.W.codeIn K xcd7 "NotFocused.__init__" = true) (xk7 : PySem.W.keepIn K (.ref I7) = true) (xt7 : PySem.W.typeIn K (.ref I7) = some (.type "function")) (xn7 : PySem.W.findIn K (.ref C7) "key" = some none)
    {C8 N8 : Addr} {nm8 qn8 : Str} {bs8 bm8 sub8 : List Value} {sn8 : List Str} {ab8 : Bool} {col8 : Option Bool} {dd8 : Option Addr} {ka8 kb8 kc8 kd8 ke8 : Option Value} (xa8 : PySem.W.nsIn K mainGlobals "Lost" = some (some (.ref C8))) (xl8 : K.lookup C8 = some (excClassObj nm8 qn8 C8 N8 bs8 bm8 true sn8 sub8 ab8 col8 dd8 ka8 kb8 kc8 kd8 ke8 "ValueError.__new__")) (xv8 : PySem.HandSPX.refsVE bm8 = true) (xf8 : XF K C8)
    {I8 : Addr} {xod8 xan8 : Option Addr} {xsl8 : Array (Option Value)} {xoc8 xkV8 xdc8 xpm8 xcd8 xct8 : Value} (xi8 : PySem.W.findIn K (.ref C8) "__init__" = some (some (.ref I8))) (xL8 : K.lookup I8 = some ⟨xoc8, xod8, .func (PySem.W.fnOf "__init__" "Lost.__init__" (defArgs s_Lost_init) (defBody s_Lost_init) (defScope s_Lost_init) .none xkV8 xdc8 xpm8 xan8 xcd8 xct8), xsl8⟩) (xc8 : PySem.W.codeIn K xcd8 "Lost.__init__" = true) (xk8 : PySem.W.keepIn K (.ref I8) = true) (xt8 : PySem.W.typeIn K (.ref I8) = some (.type "function")) (xn8 : PySem.W.findIn K (.ref C8) "value" = some none)
    {C9 N9 : Addr} {nm9 qn9 : Str} {bs9 bm9 sub9 : List Value} {sn9 : List Str} {ab9 : Bool} {col9 : Option Bool} {dd9 : Option Addr} {ka9 kb9 kc9 kd9 ke9 : Option Value} (xa9 : PySem.W.nsIn K mainGlobals "NothingToUndo" = some (some (.ref C9))) (xl9 : K.lookup C9 = some (excClassObj nm9 qn9 C9 N9 bs9 bm9 true sn9 sub9 ab9 col9 dd9 ka9 kb9 kc9 kd9 ke9 "ValueError.__new__")) (xv9 : PySem.HandSPX.refsVE bm9 = true) (xf9 : XF K C9)
    (xe9 : PySem.W.excIn K C9 [.type "ValueError", .type "Exception", .type "BaseException", .type "object"] "ValueError.__new__" = true)
    {C10 N10 : Addr} {nm10 qn10 : Str} {bs10 bm10 sub10 : List Value} {sn10 : List Str} {ab10 : Bool} {col10 : Option Bool} {dd10 : Option Addr} {ka10 kb10 kc10 kd10 ke10 : Option Value} (xa10 : PySem.W.nsIn K mainGlobals "BadText" = some (some (.ref C10))) (xl10 : K.lookup C10 = some (excClassObj nm10 qn10 C10 N10 bs10 bm10 true sn10 sub10 ab10 col10 dd10 ka10 kb10 kc10 kd10 ke10 "ValueError.__new__")) (xv10 : PySem.HandSPX.refsVE bm10 = true) (xf10 : XF K C10)
    {I10 : Addr} {xod10 xan10 : Option Addr} {xsl10 : Array (Option Value)} {xoc10 xkV10 xdc10 xpm10 xcd10 xct10 : Value} (xi10 : PySem.W.findIn K (.ref C10) "__init__" = some (some (.ref I10))) (xL10 : K.lookup I10 = some ⟨xoc10, xod10, .func (PySem.W.fnOf "__init__" "BadText.__init__" (defArgs s_BadText_init) (defBody s_BadText_init) (defScope s_BadText_init) .none xkV10 xdc10 xpm10 xan10 xcd10 xct10), xsl10⟩) (xc10 : PySem.W.codeIn K xcd10 "BadText.__init__" = true) (xk10 : PySem.W.keepIn K (.ref I10) = true) (xt10 : PySem.W.typeIn K (.ref I10) = some (.type "function")) (xn10 : PySem.W.findIn K (.ref C10) "line" = some none)
    {C11 N11 : Addr} {nm11 qn11 : Str} {bs11 bm11 sub11 : List Value} {sn11 : List Str} {ab11 : Bool} {col11 : Option Bool} {dd11 : Option Addr} {ka11 kb11 kc11 kd11 ke11 : Option Value} (xa11 : PySem.W.nsIn K mainGlobals "BadLine" = some (some (.ref C11))) (xl11 : K.lookup C11 = some (excClassObj nm11 qn11 C11 N11 bs11 bm11 true sn11 sub11 ab11 col11 dd11 ka11 kb11 kc11 kd11 ke11 "ValueError.__new__")) (xv11 : PySem.HandSPX.refsVE bm11 = true) (xf11 : XF K C11)
    {I11 : Addr} {xod11 xan11 : Option Addr} {xsl11 : Array (Option Value)} {xoc11 xkV11 xdc11 xpm11 xcd11 xct11 : Value} (xi11 : PySem.W.findIn K (.ref C11) "__init__" = some (some (.ref I11))) (xL11 : K.lookup I11 = some ⟨xoc11, xod11, .func (PySem.W.fnOf "__init__" "BadLine.__init__" (defArgs s_BadLine_init) (defBody s_BadLine_init) (defScope s_BadLine_init) .none xkV11 xdc11 xpm11 xan11 xcd11 xct11), xsl11⟩) (xc11 : PySem.W.codeIn K xcd11 "BadLine.__init__" = true) (xk11 : PySem.W.keepIn K (.ref I11) = true) (xt11 : PySem.W.typeIn K (.ref I11) = some (.type "function")) (xn11 : PySem.W.findIn K (.ref C11) "line" = some none)
    {CB : Addr} (ba : PySem.W.nsIn K mainGlobals "KeyedError" = some (some (.ref CB))) (bsp : PySem.W.specialIn K (.ref CB) "__getattribute__" = some (some (.builtin "type.__getattribute__"))) (brd : PySem.W.readsIn K CB (.type "type") = true) (bat : PySem.W.findCls K (.ref CB) (.type "type") "__init__" = some (.val (.builtin "ValueError.__init__"))) (bis : PySem.W.isClsIn K CB = true) (bty : PySem.W.typeIn K (.ref CB) = some (.type "type")) (bsub : PySem.W.subIn K (.ref CB) (.type "BaseException") = some true)
    (kq_BadLine : kitQ [("NoElement", C0, bm0), ("DifferentRoots", C1, bm1), ("NotKept", C2, bm2), ("Conflict", C3, bm3), ("BadTree", C4, bm4), ("BadCosts", C5, bm5), ("Root", C6, bm6), ("NotFocused", C7, bm7), ("Lost", C8, bm8), ("NothingToUndo", C9, bm9), ("BadText", C10, bm10), ("BadLine", C11, bm11)] "BadLine" C11 = true) (kq_BadText : kitQ [("NoElement", C0, bm0), ("DifferentRoots", C1, bm1), ("NotKept", C2, bm2), ("Conflict", C3, bm3), ("BadTree", C4, bm4), ("BadCosts", C5, bm5), ("Root", C6, bm6), ("NotFocused", C7, bm7), ("Lost", C8, bm8), ("NothingToUndo", C9, bm9), ("BadText", C10, bm10), ("BadLine", C11, bm11)] "BadText" C10 = true) (kq_BadTree : kitQ [("NoElement", C0, bm0), ("DifferentRoots", C1, bm1), ("NotKept", C2, bm2), ("Conflict", C3, bm3), ("BadTree", C4, bm4), ("BadCosts", C5, bm5), ("Root", C6, bm6), ("NotFocused", C7, bm7), ("Lost", C8, bm8), ("NothingToUndo", C9, bm9), ("BadText", C10, bm10), ("BadLine", C11, bm11)] "BadTree" C4 = true) (kq_KeyedError : kitQ [("NoElement", C0, bm0), ("DifferentRoots", C1, bm1), ("NotKept", C2, bm2), ("Conflict", C3, bm3), ("BadTree", C4, bm4), ("BadCosts", C5, bm5), ("Root", C6, bm6), ("NotFocused", C7, bm7), ("Lost", C8, bm8), ("NothingToUndo", C9, bm9), ("BadText", C10, bm10), ("BadLine", C11, bm11)] "KeyedError" CB = true)
    {ga_KEY_COUNTS : Addr} {gs_KEY_COUNTS : Array DictEntry} {gn_KEY_COUNTS : Nat} (gm_KEY_COUNTS : PySem.W.nsIn K mainGlobals "KEY_COUNTS" = some (some (.ref ga_KEY_COUNTS))) (gl_KEY_COUNTS : K.lookup ga_KEY_COUNTS = some ⟨.type "dict", none, .dict gs_KEY_COUNTS gn_KEY_COUNTS, #[]⟩) (gk_KEY_COUNTS : PySem.W.KeysLit w.params gs_KEY_COUNTS.toList) (ge_KEY_COUNTS : EsAre gs_KEY_COUNTS.toList d_KEY_COUNTS) (gw_KEY_COUNTS : (ga_KEY_COUNTS == sysModules) = false)
    {tk_BLANK : Nat} (c_BLANK : PySem.W.nsIn K mainGlobals "BLANK" = some (some (.str " " tk_BLANK))) {tk_ELEMENT_PARTS : Nat} (c_ELEMENT_PARTS : PySem.W.nsIn K mainGlobals "ELEMENT_PARTS" = some (some (.int 2 tk_ELEMENT_PARTS))) {tk_FEED : Nat} (c_FEED : PySem.W.nsIn K mainGlobals "FEED" = some (some (.str "\n" tk_FEED))) {tk_INDENT : Nat} (c_INDENT : PySem.W.nsIn K mainGlobals "INDENT" = some (some (.str "  " tk_INDENT))) {tk_LEAST_COST : Nat} (c_LEAST_COST : PySem.W.nsIn K mainGlobals "LEAST_COST" = some (some (.int 1 tk_LEAST_COST))) {tk_LETTERS : Nat} (c_LETTERS : PySem.W.nsIn K mainGlobals "LETTERS" = some (some (.str "abcdefghijklmnopqrstuvwxyz" tk_LETTERS))) {tk_LONGEST_KEY : Nat} (c_LONGEST_KEY : PySem.W.nsIn K mainGlobals "LONGEST_KEY" = some (some (.int 8 tk_LONGEST_KEY))) {tk_MOST_COST : Nat} (c_MOST_COST : PySem.W.nsIn K mainGlobals "MOST_COST" = some (some (.int 1000 tk_MOST_COST))) {tk_MOST_ELEMENTS : Nat} (c_MOST_ELEMENTS : PySem.W.nsIn K mainGlobals "MOST_ELEMENTS" = some (some (.int 60 tk_MOST_ELEMENTS))) {tk_MOST_NESTED : Nat} (c_MOST_NESTED : PySem.W.nsIn K mainGlobals "MOST_NESTED" = some (some (.int 20 tk_MOST_NESTED))) {tk_MOST_OPERATIONS : Nat} (c_MOST_OPERATIONS : PySem.W.nsIn K mainGlobals "MOST_OPERATIONS" = some (some (.int 400 tk_MOST_OPERATIONS))) {tk_PAIR : Nat} (c_PAIR : PySem.W.nsIn K mainGlobals "PAIR" = some (some (.int 2 tk_PAIR)))
    (z_ValueError : PySem.W.nsIn K mainGlobals "ValueError" = some none) (z_abs : PySem.W.nsIn K mainGlobals "abs" = some none) (z_all : PySem.W.nsIn K mainGlobals "all" = some none) (z_bool : PySem.W.nsIn K mainGlobals "bool" = some none) (z_divmod : PySem.W.nsIn K mainGlobals "divmod" = some none) (z_enumerate : PySem.W.nsIn K mainGlobals "enumerate" = some none) (z_int : PySem.W.nsIn K mainGlobals "int" = some none) (z_isinstance : PySem.W.nsIn K mainGlobals "isinstance" = some none) (z_len : PySem.W.nsIn K mainGlobals "len" = some none) (z_max : PySem.W.nsIn K mainGlobals "max" = some none) (z_min : PySem.W.nsIn K mainGlobals "min" = some none) (z_range : PySem.W.nsIn K mainGlobals "range" = some none) (z_repr : PySem.W.nsIn K mainGlobals "repr" = some none) (z_set : PySem.W.nsIn K mainGlobals "set" = some none) (z_str : PySem.W.nsIn K mainGlobals "str" = some none) (z_tuple : PySem.W.nsIn K mainGlobals "tuple" = some none) (z_zip : PySem.W.nsIn K mainGlobals "zip" = some none)
    (hcd : cd22 = .ref (tabOf K f22).1) (hth : PySem.W.codeHdIn K (tabOf K f22).1 (tabOf K f22).2 = true) (htn : K.lookup (tabOf K f22).2 = none) :
    ∃ (T0 : Addr) (fd : FuncData), TabAt K "law" T0 ∧ K.lookup T0 = none ∧ (∀ (s : Shared) (v : Value), BindsTo s fd ⟨[v], []⟩ [("_law_script", v)]) ∧ ∀ base : Heap, K.In base → base.Ns mainGlobals mg → BM base mg → FnG l.prog w K mg base CX0 77 fa fd ["_law_script"] (LSp K sp_law) := by
  have e := hfa.symm.trans (PySem.W.mg_of X G a22)
  cases e
  have F0 := fun_mk (st := s_is_key) l0 c0 k0
  have b0 := F0.binds (ps := ["value"]) fun _ _ _ _ _ _ us hl => match us, hl with | [_], _ => rfl
  have F1 := fun_mk (st := s_keys_within) l1 c1 k1
  have b1 := F1.binds (ps := ["value", "levels"]) fun _ _ _ _ _ _ us hl => match us, hl with | [_, _], _ => rfl
  have F2 := fun_mk (st := s_is_tree) l2 c2 k2
  have b2 := F2.binds (ps := ["value"]) fun _ _ _ _ _ _ us hl => match us, hl with | [_], _ => rfl
  have F3 := fun_mk (st := s_keys_of) l3 c3 k3
  have b3 := F3.binds (ps := ["tree"]) fun _ _ _ _ _ _ us hl => match us, hl with | [_], _ => rfl
  have F4 := fun_mk (st := s_tree_from) l4 c4 k4
  have b4 := F4.binds (ps := ["key", "children"]) fun _ _ _ _ _ _ us hl => match us, hl with | [_, _], _ => rfl
  have F5 := fun_mk (st := s_children_of) l5 c5 k5
  have b5 := F5.binds (ps := ["tree", "key"]) fun _ _ _ _ _ _ us hl => match us, hl with | [_, _], _ => rfl
  have F6 := fun_mk (st := s_path_of) l6 c6 k6
  have b6 := F6.binds (ps := ["tree", "key"]) fun _ _ _ _ _ _ us hl => match us, hl with | [_, _], _ => rfl
  have F7 := fun_mk (st := s_is_cost) l7 c7 k7
  have b7 := F7.binds (ps := ["value"]) fun _ _ _ _ _ _ us hl => match us, hl with | [_], _ => rfl
  have F8 := fun_mk (st := s_are_costs) l8 c8 k8
  have b8 := F8.binds (ps := ["value"]) fun _ _ _ _ _ _ us hl => match us, hl with | [_], _ => rfl
  have F9 := fun_mk (st := s_tree_lines) l9 c9 k9
  have b9 := F9.binds (ps := ["tree", "depth"]) fun _ _ _ _ _ _ us hl => match us, hl with | [_, _], _ => rfl
  have F10 := fun_mk (st := s_show_tree) l10 c10 k10
  have b10 := F10.binds (ps := ["tree"]) fun _ _ _ _ _ _ us hl => match us, hl with | [_], _ => rfl
  have F11 := fun_mk (st := s_split_line) l11 c11 k11
  have b11 := F11.binds (ps := ["line"]) fun _ _ _ _ _ _ us hl => match us, hl with | [_], _ => rfl
  have F12 := fun_mk (st := s_read_tree) l12 c12 k12
  have b12 := F12.binds (ps := ["text"]) fun _ _ _ _ _ _ us hl => match us, hl with | [_], _ => rfl
  have F13 := fun_mk (st := s_operation_in) l13 c13 k13
  have b13 := F13.binds (ps := ["line"]) fun _ _ _ _ _ _ us hl => match us, hl with | [_], _ => rfl
  have F14 := fun_mk (st := s_read_operations) l14 c14 k14
  have b14 := F14.binds (ps := ["text"]) fun _ _ _ _ _ _ us hl => match us, hl with | [_], _ => rfl
  have F15 := fun_mk (st := s_listed) l15 c15 k15
  have b15 := F15.binds (ps := ["words", "between"]) fun _ _ _ _ _ _ us hl => match us, hl with | [_, _], _ => rfl
  have F16 := fun_mk (st := s__law_hand) l16 c16 k16
  have b16 := F16.binds (ps := ["_law_script", "_law_k"]) fun _ _ _ _ _ _ us hl => match us, hl with | [_, _], _ => rfl
  have F17 := fun_mk (st := s__law_take) l17 c17 k17
  have b17 := F17.binds (ps := ["_law_hand_here", "_law_many"]) fun _ _ _ _ _ _ us hl => match us, hl with | [_, _], _ => rfl
  have F18 := fun_mk (st := s__law_of) l18 c18 k18
  have b18 := F18.binds (ps := ["_law_hand_here", "_law_some"]) fun _ _ _ _ _ _ us hl => match us, hl with | [_, _], _ => rfl
  have F19 := fun_mk (st := s__law_heard) l19 c19 k19
  have b19 := F19.binds (ps := ["_law_call"]) fun _ _ _ _ _ _ us hl => match us, hl with | [_], _ => rfl
  have F20 := fun_mk (st := s__law_odd) l20 c20 k20
  have b20 := F20.binds (ps := ["_law_hand_here"]) fun _ _ _ _ _ _ us hl => match us, hl with | [_], _ => rfl
  have F21 := fun_mk (st := s__law_line) l21 c21 k21
  have b21 := F21.binds (ps := ["_law_desk", "_law_value"]) fun _ _ _ _ _ _ us hl => match us, hl with | [_, _], _ => rfl
  have F22 := fun_mk (st := s_law) l22 c22 k22
  have b22 := F22.binds (ps := ["_law_script"]) fun _ _ _ _ _ _ us hl => match us, hl with | [_], _ => rfl
  have F23 := fun_mk (st := s_TreeReader_init) l23 c23 k23
  have b23 := F23.binds (ps := ["self"]) fun _ _ _ _ _ _ us hl => match us, hl with | [_], _ => rfl
  have F24 := fun_mk (st := s_TreeReader_can_follow) l24 c24 k24
  have b24 := F24.binds (ps := ["self", "depth", "key"]) fun _ _ _ _ _ _ us hl => match us, hl with | [_, _, _], _ => rfl
  have F25 := fun_mk (st := s_TreeReader_add) l25 c25 k25
  have b25 := F25.binds (ps := ["self", "depth", "key"]) fun _ _ _ _ _ _ us hl => match us, hl with | [_, _, _], _ => rfl
  have F26 : FunV K "__init__" "View.__init__" s_View_init f26 _ := ⟨⟨_, _, _, _, _, _, _, _, _, _, rfl, l26, c26⟩, k26⟩
  have b26 := bindsV (fd := PySem.W.fnOf "__init__" "View.__init__" (defArgs s_View_init) (defBody s_View_init) (defScope s_View_init) (.ref T26) kV26 dc26 pm26 an26 cd26 ct26) (ps := ["self", "tree", "costs"]) e26 rfl fun us hl => match us, hl with | [_, _, _], _ => ⟨_, rfl, rfl⟩
  have w26 := bindsV1 (fd := PySem.W.fnOf "__init__" "View.__init__" (defArgs s_View_init) (defBody s_View_init) (defScope s_View_init) (.ref T26) kV26 dc26 pm26 an26 cd26 ct26) (ps := ["self", "tree", "costs"]) (v := .ref d26) e26 rfl fun us hl => match us, hl with | [_, _], _ => ⟨_, rfl, rfl⟩
  have F27 := fun_mk (st := s_View___len__) l27 c27 k27
  have b27 := F27.binds (ps := ["self"]) fun _ _ _ _ _ _ us hl => match us, hl with | [_], _ => rfl
  have F28 := fun_mk (st := s_View_tree) l28 c28 k28
  have b28 := F28.binds (ps := ["self"]) fun _ _ _ _ _ _ us hl => match us, hl with | [_], _ => rfl
  have F29 := fun_mk (st := s_View_focused) l29 c29 k29
  have b29 := F29.binds (ps := ["self"]) fun _ _ _ _ _ _ us hl => match us, hl with | [_], _ => rfl
  have F30 := fun_mk (st := s_View_spent) l30 c30 k30
  have b30 := F30.binds (ps := ["self"]) fun _ _ _ _ _ _ us hl => match us, hl with | [_], _ => rfl
  have F31 := fun_mk (st := s_Desk_init) l31 c31 k31
  have b31 := F31.binds (ps := ["self", "text"]) fun _ _ _ _ _ _ us hl => match us, hl with | [_, _], _ => rfl
  have F32 := fun_mk (st := s_Desk_say) l32 c32 k32
  have b32 := F32.binds (ps := ["self", "line"]) fun _ _ _ _ _ _ us hl => match us, hl with | [_, _], _ => rfl
  have F33 := fun_mk (st := s_Desk_say_tree) l33 c33 k33
  have b33 := F33.binds (ps := ["self", "line", "word", "text"]) fun _ _ _ _ _ _ us hl => match us, hl with | [_, _, _, _], _ => rfl
  have F34 := fun_mk (st := s_Desk_say_price) l34 c34 k34
  have b34 := F34.binds (ps := ["self", "line", "words"]) fun _ _ _ _ _ _ us hl => match us, hl with | [_, _, _], _ => rfl
  have F35 := fun_mk (st := s_Desk_say_change) l35 c35 k35
  have b35 := F35.binds (ps := ["self", "words"]) fun _ _ _ _ _ _ us hl => match us, hl with | [_, _], _ => rfl
  have F36 := fun_mk (st := s_Desk_say_question) l36 c36 k36
  have b36 := F36.binds (ps := ["self", "words"]) fun _ _ _ _ _ _ us hl => match us, hl with | [_, _], _ => rfl
  have xr0 : XRow K ("NoElement", C0, bm0) := ⟨xa0, xv0, _, _, _, _, _, _, _, _, _, _, _, _, _, _, xl0⟩
  have xF0 := fun_mk (st := s_NoElement_init) xL0 xc0 xk0
  have xb0 := xF0.binds (ps := ["self", "key"]) fun _ _ _ _ _ _ us hl => match us, hl with | [_, _], _ => rfl
  have xkb0 : KBinds K _ ["self", "key"] ["key"] (kwG [.inl 0, .inr 0] 1 1) (kwG [.inl 0, .inr 0] 1 1) := kbinds_of xF0 (fun _ _ _ _ _ _ us ws h1 h2 _ => match us, ws, h1, h2 with | [_], [_], _, _ => rfl) (by simp)
  have xr1 : XRow K ("DifferentRoots", C1, bm1) := ⟨xa1, xv1, _, _, _, _, _, _, _, _, _, _, _, _, _, _, xl1⟩
  have xr2 : XRow K ("NotKept", C2, bm2) := ⟨xa2, xv2, _, _, _, _, _, _, _, _, _, _, _, _, _, _, xl2⟩
  have xF2 := fun_mk (st := s_NotKept_init) xL2 xc2 xk2
  have xb2 := xF2.binds (ps := ["self", "value"]) fun _ _ _ _ _ _ us hl => match us, hl with | [_, _], _ => rfl
  have xkb2 : KBinds K _ ["self", "value"] ["value"] (kwG [.inl 0, .inr 0] 1 1) (kwG [.inl 0, .inr 0] 1 1) := kbinds_of xF2 (fun _ _ _ _ _ _ us ws h1 h2 _ => match us, ws, h1, h2 with | [_], [_], _, _ => rfl) (by simp)
  have xr3 : XRow K ("Conflict", C3, bm3) := ⟨xa3, xv3, _, _, _, _, _, _, _, _, _, _, _, _, _, _, xl3⟩
  have xF3 := fun_mk (st := s_Conflict_init) xL3 xc3 xk3
  have xb3 := xF3.binds (ps := ["self", "value"]) fun _ _ _ _ _ _ us hl => match us, hl with | [_, _], _ => rfl
  have xkb3 : KBinds K _ ["self", "value"] ["value"] (kwG [.inl 0, .inr 0] 1 1) (kwG [.inl 0, .inr 0] 1 1) := kbinds_of xF3 (fun _ _ _ _ _ _ us ws h1 h2 _ => match us, ws, h1, h2 with | [_], [_], _, _ => rfl) (by simp)
  have xr4 : XRow K ("BadTree", C4, bm4) := ⟨xa4, xv4, _, _, _, _, _, _, _, _, _, _, _, _, _, _, xl4⟩
  have xF4 := fun_mk (st := s_BadTree_init) xL4 xc4 xk4
  have xb4 := xF4.binds (ps := ["self", "value"]) fun _ _ _ _ _ _ us hl => match us, hl with | [_, _], _ => rfl
  have xkb4 : KBinds K _ ["self", "value"] ["value"] (kwG [.inl 0, .inr 0] 1 1) (kwG [.inl 0, .inr 0] 1 1) := kbinds_of xF4 (fun _ _ _ _ _ _ us ws h1 h2 _ => match us, ws, h1, h2 with | [_], [_], _, _ => rfl) (by simp)
  have xr5 : XRow K ("BadCosts", C5, bm5) := ⟨xa5, xv5, _, _, _, _, _, _, _, _, _, _, _, _, _, _, xl5⟩
  have xF5 := fun_mk (st := s_BadCosts_init) xL5 xc5 xk5
  have xb5 := xF5.binds (ps := ["self", "value"]) fun _ _ _ _ _ _ us hl => match us, hl with | [_, _], _ => rfl
  have xkb5 : KBinds K _ ["self", "value"] ["value"] (kwG [.inl 0, .inr 0] 1 1) (kwG [.inl 0, .inr 0] 1 1) := kbinds_of xF5 (fun _ _ _ _ _ _ us ws h1 h2 _ => match us, ws, h1, h2 with | [_], [_], _, _ => rfl) (by simp)
  have xr6 : XRow K ("Root", C6, bm6) := ⟨xa6, xv6, _, _, _, _, _, _, _, _, _, _, _, _, _, _, xl6⟩
  have xF6 := fun_mk (st := s_Root_init) xL6 xc6 xk6
  have xb6 := xF6.binds (ps := ["self", "key"]) fun _ _ _ _ _ _ us hl => match us, hl with | [_, _], _ => rfl
  have xkb6 : KBinds K _ ["self", "key"] ["key"] (kwG [.inl 0, .inr 0] 1 1) (kwG [.inl 0, .inr 0] 1 1) := kbinds_of xF6 (fun _ _ _ _ _ _ us ws h1 h2 _ => match us, ws, h1, h2 with | [_], [_], _, _ => rfl) (by simp)
  have xr7 : XRow K ("NotFocused", C7, bm7) := ⟨xa7, xv7, _, _, _, _, _, _, _, _, _, _, _, _, _, _, xl7⟩
  have xF7 := fun_mk (st := s_NotFocused_init) xL7 xc7 xk7
  have xb7 := xF7.binds (ps := ["self", "key"]) fun _ _ _ _ _ _ us hl => match us, hl with | [_, _], _ => rfl
  have xkb7 : KBinds K _ ["self", "key"] ["key"] (kwG [.inl 0, .inr 0] 1 1) (kwG [.inl 0, .inr 0] 1 1) := kbinds_of xF7 (fun _ _ _ _ _ _ us ws h1 h2 _ => match us, ws, h1, h2 with | [_], [_], _, _ => rfl) (by simp)
  have xr8 : XRow K ("Lost", C8, bm8) := ⟨xa8, xv8, _, _, _, _, _, _, _, _, _, _, _, _, _, _, xl8⟩
  have xF8 := fun_mk (st := s_Lost_init) xL8 xc8 xk8
  have xb8 := xF8.binds (ps := ["self", "value"]) fun _ _ _ _ _ _ us hl => match us, hl with | [_, _], _ => rfl
  have xkb8 : KBinds K _ ["self", "value"] ["value"] (kwG [.inl 0, .inr 0] 1 1) (kwG [.inl 0, .inr 0] 1 1) := kbinds_of xF8 (fun _ _ _ _ _ _ us ws h1 h2 _ => match us, ws, h1, h2 with | [_], [_], _, _ => rfl) (by simp)
  have xr9 : XRow K ("NothingToUndo", C9, bm9) := ⟨xa9, xv9, _, _, _, _, _, _, _, _, _, _, _, _, _, _, xl9⟩
  have xr10 : XRow K ("BadText", C10, bm10) := ⟨xa10, xv10, _, _, _, _, _, _, _, _, _, _, _, _, _, _, xl10⟩
  have xF10 := fun_mk (st := s_BadText_init) xL10 xc10 xk10
  have xb10 := xF10.binds (ps := ["self", "line"]) fun _ _ _ _ _ _ us hl => match us, hl with | [_, _], _ => rfl
  have xkb10 : KBinds K _ ["self", "line"] ["line"] (kwG [.inl 0, .inr 0] 1 1) (kwG [.inl 0, .inr 0] 1 1) := kbinds_of xF10 (fun _ _ _ _ _ _ us ws h1 h2 _ => match us, ws, h1, h2 with | [_], [_], _, _ => rfl) (by simp)
  have xr11 : XRow K ("BadLine", C11, bm11) := ⟨xa11, xv11, _, _, _, _, _, _, _, _, _, _, _, _, _, _, xl11⟩
  have xF11 := fun_mk (st := s_BadLine_init) xL11 xc11 xk11
  have xb11 := xF11.binds (ps := ["self", "line"]) fun _ _ _ _ _ _ us hl => match us, hl with | [_, _], _ => rfl
  have xkb11 : KBinds K _ ["self", "line"] ["line"] (kwG [.inl 0, .inr 0] 1 1) (kwG [.inl 0, .inr 0] 1 1) := kbinds_of xF11 (fun _ _ _ _ _ _ us ws h1 h2 _ => match us, ws, h1, h2 with | [_], [_], _, _ => rfl) (by simp)
  have rows : ∀ r ∈ ([("NoElement", C0, bm0), ("DifferentRoots", C1, bm1), ("NotKept", C2, bm2), ("Conflict", C3, bm3), ("BadTree", C4, bm4), ("BadCosts", C5, bm5), ("Root", C6, bm6), ("NotFocused", C7, bm7), ("Lost", C8, bm8), ("NothingToUndo", C9, bm9), ("BadText", C10, bm10), ("BadLine", C11, bm11)] : List (Str × Addr × List Value)), XRow K r := fun r hr => by
    simp only [List.mem_cons, List.not_mem_nil, or_false] at hr
    rcases hr with rfl | rfl | rfl | rfl | rfl | rfl | rfl | rfl | rfl | rfl | rfl | rfl
    · exact xr0
    · exact xr1
    · exact xr2
    · exact xr3
    · exact xr4
    · exact xr5
    · exact xr6
    · exact xr7
    · exact xr8
    · exact xr9
    · exact xr10
    · exact xr11
  have isCB : (PySem.W.clsIn K CB).isSome = true := bis
  have isC_BadLine : (PySem.W.clsIn K C11).isSome = true := by obtain ⟨cd, e, _⟩ := xrow_cls xr11; exact Option.isSome_iff_exists.mpr ⟨cd, e⟩
  have isC_BadText : (PySem.W.clsIn K C10).isSome = true := by obtain ⟨cd, e, _⟩ := xrow_cls xr10; exact Option.isSome_iff_exists.mpr ⟨cd, e⟩
  have isC_BadTree : (PySem.W.clsIn K C4).isSome = true := by obtain ⟨cd, e, _⟩ := xrow_cls xr4; exact Option.isSome_iff_exists.mpr ⟨cd, e⟩
  let T : All K mg w.params := { x_NoElement := ⟨C0, I0, _, xF0, PySem.W.mg_of X G xa0, xf0.oex xr0, xi0, xt0, xb0, xkb0, xf0.xck xa0 (fun f hf => by cases List.mem_singleton.mp hf; exact xn0)⟩, x_DifferentRoots := ⟨C1, PySem.W.mg_of X G xa1, xe1, xf1.kc, xf1.xck xa1 (fun f hf => by cases hf)⟩, x_NotKept := ⟨C2, I2, _, xF2, PySem.W.mg_of X G xa2, xf2.oex xr2, xi2, xt2, xb2, xkb2, xf2.xck xa2 (fun f hf => by cases List.mem_singleton.mp hf; exact xn2)⟩, x_Conflict := ⟨C3, I3, _, xF3, PySem.W.mg_of X G xa3, xf3.oex xr3, xi3, xt3, xb3, xkb3, xf3.xck xa3 (fun f hf => by cases List.mem_singleton.mp hf; exact xn3)⟩, x_BadTree := ⟨C4, I4, _, xF4, PySem.W.mg_of X G xa4, xf4.oex xr4, xi4, xt4, xb4, xkb4, xf4.xck xa4 (fun f hf => by cases List.mem_singleton.mp hf; exact xn4)⟩, x_BadCosts := ⟨C5, I5, _, xF5, PySem.W.mg_of X G xa5, xf5.oex xr5, xi5, xt5, xb5, xkb5, xf5.xck xa5 (fun f hf => by cases List.mem_singleton.mp hf; exact xn5)⟩, x_Root := ⟨C6, I6, _, xF6, PySem.W.mg_of X G xa6, xf6.oex xr6, xi6, xt6, xb6, xkb6, xf6.xck xa6 (fun f hf => by cases List.mem_singleton.mp hf; exact xn6)⟩, x_NotFocused := ⟨C7, I7, _, xF7, PySem.W.mg_of X G xa7, xf7.oex xr7, xi7, xt7, xb7, xkb7, xf7.xck xa7 (fun f hf => by cases List.mem_singleton.mp hf; exact xn7)⟩, x_Lost := ⟨C8, I8, _, xF8, PySem.W.mg_of X G xa8, xf8.oex xr8, xi8, xt8, xb8, xkb8, xf8.xck xa8 (fun f hf => by cases List.mem_singleton.mp hf; exact xn8)⟩, x_NothingToUndo := ⟨C9, PySem.W.mg_of X G xa9, xe9, xf9.kc, xf9.xck xa9 (fun f hf => by cases hf)⟩, x_BadText := ⟨C10, I10, _, xF10, PySem.W.mg_of X G xa10, xf10.oex xr10, xi10, xt10, xb10, xkb10, xf10.xck xa10 (fun f hf => by cases List.mem_singleton.mp hf; exact xn10)⟩, x_BadLine := ⟨C11, I11, _, xF11, PySem.W.mg_of X G xa11, xf11.oex xr11, xi11, xt11, xb11, xkb11, xf11.xck xa11 (fun f hf => by cases List.mem_singleton.mp hf; exact xn11)⟩, b_KeyedError := ⟨CB, PySem.W.mg_of X G ba, bsp, brd, bat⟩, exm_KeyedError := fun y b C => exm_ok kq_KeyedError rows isCB bty bsub y b C, a_BadLine := C11, m_BadLine := PySem.W.mg_of X G xa11, kit_BadLine := fun y b C => kit_ok kq_BadLine rows isC_BadLine xf11.ty y b C, a_BadText := C10, m_BadText := PySem.W.mg_of X G xa10, kit_BadText := fun y b C => kit_ok kq_BadText rows isC_BadText xf10.ty y b C, a_BadTree := C4, m_BadTree := PySem.W.mg_of X G xa4, kit_BadTree := fun y b C => kit_ok kq_BadTree rows isC_BadTree xf4.ty y b C, a_KeyedError := CB, m_KeyedError := PySem.W.mg_of X G ba, kit_KeyedError := fun y b C => kit_ok kq_KeyedError rows isCB bty y b C, kit_ValueError := fun y b C => kit_ve rows y b C, o_TreeReader := ⟨O0, PySem.W.mg_of X G oa0, ⟨oa0, ⟨og0, oh0, oo0, os0⟩⟩⟩, o_View := ⟨O1, PySem.W.mg_of X G oa1, ⟨oa1, ⟨og1, oh1, oo1, os1⟩⟩⟩, o_Desk := ⟨O2, PySem.W.mg_of X G oa2, ⟨oa2, ⟨og2, oh2, oo2, os2⟩⟩⟩, n_Desk_held_view := on2_held_view, n_TreeReader_child_keys := on0_child_keys, n_TreeReader_way := on0_way, n_View_past := on1_past, n_View_present := on1_present, is_key := ⟨_, _, F0, PySem.W.mg_of X G a0, b0⟩, keys_within := ⟨_, _, F1, PySem.W.mg_of X G a1, b1⟩, is_tree := ⟨_, _, F2, PySem.W.mg_of X G a2, b2⟩, keys_of := ⟨_, _, F3, PySem.W.mg_of X G a3, b3⟩, tree_from := ⟨_, _, F4, PySem.W.mg_of X G a4, b4⟩, children_of := ⟨_, _, F5, PySem.W.mg_of X G a5, b5⟩, path_of := ⟨_, _, F6, PySem.W.mg_of X G a6, b6⟩, is_cost := ⟨_, _, F7, PySem.W.mg_of X G a7, b7⟩, are_costs := ⟨_, _, F8, PySem.W.mg_of X G a8, b8⟩, tree_lines := ⟨_, _, F9, PySem.W.mg_of X G a9, b9⟩, show_tree := ⟨_, _, F10, PySem.W.mg_of X G a10, b10⟩, split_line := ⟨_, _, F11, PySem.W.mg_of X G a11, b11⟩, read_tree := ⟨_, _, F12, PySem.W.mg_of X G a12, b12⟩, operation_in := ⟨_, _, F13, PySem.W.mg_of X G a13, b13⟩, read_operations := ⟨_, _, F14, PySem.W.mg_of X G a14, b14⟩, listed := ⟨_, _, F15, PySem.W.mg_of X G a15, b15⟩, _law_hand := ⟨_, _, F16, PySem.W.mg_of X G a16, b16⟩, _law_take := ⟨_, _, F17, PySem.W.mg_of X G a17, b17⟩, _law_of := ⟨_, _, F18, PySem.W.mg_of X G a18, b18⟩, _law_heard := ⟨_, _, F19, PySem.W.mg_of X G a19, b19⟩, _law_odd := ⟨_, _, F20, PySem.W.mg_of X G a20, b20⟩, _law_line := ⟨_, _, F21, PySem.W.mg_of X G a21, b21⟩, law := ⟨_, _, F22, PySem.W.mg_of X G a22, b22⟩, i_TreeReader := ⟨_, _, F23, ⟨om0, a23, fn23, ok0⟩, b23⟩, m_TreeReader_can_follow := ⟨_, _, F24, ⟨a24, fn24, k24⟩, b24⟩, m_TreeReader_add := ⟨_, _, F25, ⟨a25, fn25, k25⟩, b25⟩, i_View := ⟨_, _, F26, ⟨om1, a26, fn26, ok1⟩, b26⟩, m_View___len__ := ⟨_, _, F27, ⟨a27, fn27, k27⟩, b27⟩, m_View_tree := ⟨_, _, F28, ⟨a28, fn28, k28⟩, b28⟩, m_View_focused := ⟨_, _, F29, ⟨a29, fn29, k29⟩, b29⟩, m_View_spent := ⟨_, _, F30, ⟨a30, fn30, k30⟩, b30⟩, i_Desk := ⟨_, _, F31, ⟨om2, a31, fn31, ok2⟩, b31⟩, m_Desk_say := ⟨_, _, F32, ⟨a32, fn32, k32⟩, b32⟩, m_Desk_say_tree := ⟨_, _, F33, ⟨a33, fn33, k33⟩, b33⟩, m_Desk_say_price := ⟨_, _, F34, ⟨a34, fn34, k34⟩, b34⟩, m_Desk_say_change := ⟨_, _, F35, ⟨a35, fn35, k35⟩, b35⟩, m_Desk_say_question := ⟨_, _, F36, ⟨a36, fn36, k36⟩, b36⟩, v_View := ⟨d26, w26, fun F => .inr ⟨_, _, _, g26, rfl, rfl, by simp, .nil⟩⟩, z_ValueError := PySem.W.mg_none_of X G z_ValueError, z_abs := PySem.W.mg_none_of X G z_abs, z_all := PySem.W.mg_none_of X G z_all, z_bool := PySem.W.mg_none_of X G z_bool, z_divmod := PySem.W.mg_none_of X G z_divmod, z_enumerate := PySem.W.mg_none_of X G z_enumerate, z_int := PySem.W.mg_none_of X G z_int, z_isinstance := PySem.W.mg_none_of X G z_isinstance, z_len := PySem.W.mg_none_of X G z_len, z_max := PySem.W.mg_none_of X G z_max, z_min := PySem.W.mg_none_of X G z_min, z_range := PySem.W.mg_none_of X G z_range, z_repr := PySem.W.mg_none_of X G z_repr, z_set := PySem.W.mg_none_of X G z_set, z_str := PySem.W.mg_none_of X G z_str, z_tuple := PySem.W.mg_none_of X G z_tuple, z_zip := PySem.W.mg_none_of X G z_zip, g_KEY_COUNTS := ⟨_, PySem.W.mg_of X G gm_KEY_COUNTS, gw_KEY_COUNTS, _, _, gl_KEY_COUNTS, gk_KEY_COUNTS, ge_KEY_COUNTS⟩, c_BLANK := ⟨_, PySem.W.mg_of X G c_BLANK⟩, c_ELEMENT_PARTS := ⟨_, PySem.W.mg_of X G c_ELEMENT_PARTS⟩, c_FEED := ⟨_, PySem.W.mg_of X G c_FEED⟩, c_INDENT := ⟨_, PySem.W.mg_of X G c_INDENT⟩, c_LEAST_COST := ⟨_, PySem.W.mg_of X G c_LEAST_COST⟩, c_LETTERS := ⟨_, PySem.W.mg_of X G c_LETTERS⟩, c_LONGEST_KEY := ⟨_, PySem.W.mg_of X G c_LONGEST_KEY⟩, c_MOST_COST := ⟨_, PySem.W.mg_of X G c_MOST_COST⟩, c_MOST_ELEMENTS := ⟨_, PySem.W.mg_of X G c_MOST_ELEMENTS⟩, c_MOST_NESTED := ⟨_, PySem.W.mg_of X G c_MOST_NESTED⟩, c_MOST_OPERATIONS := ⟨_, PySem.W.mg_of X G c_MOST_OPERATIONS⟩, c_PAIR := ⟨_, PySem.W.mg_of X G c_PAIR⟩ }
  exact ⟨_, PySem.W.fnOf "law" "law" (defArgs s_law) (defBody s_law) (defScope s_law) .none kV22 dc22 pm22 an22 cd22 ct22, ⟨fa, _, _, _, _, _, a22, l22, hcd, hth⟩, htn, fun s v => .of_eq rfl, fun base _ _ bm => ok_law (P := l.prog) (w := w) (base := base) T bm⟩
theorem walk {l : PySem.W.OpenLaw} {q : Program} {loose : List Str} {XP : (Str → Option Value) → Heap → Prop} {YP : World → Heap → Prop} {d : DefRec} {K : Params → PySem.W.Frag} (hn : l.most = some 63) (hdf : d.params.defaults = [])
    (hY : ∀ (w : World) (h : Heap), YP w h → (K w.params).In h)
    (hrec : ((recsOf q).any fun e => e.name == "law") = true) (F : ∀ (w : World) (mg : Str → Option Value) (fa : Addr) (h : Heap), (K w.params).In h → h.Ns mainGlobals mg → mg d.name = some (.ref fa) →
      ∃ (T0 : Addr) (fd : FuncData), TabAt (K w.params) "law" T0 ∧ (K w.params).lookup T0 = none ∧ (∀ (s : Shared) (u : Value), BindsTo s fd ⟨[u], []⟩ [("_law_script", u)]) ∧ ∀ base : Heap, (K w.params).In base → base.Ns mainGlobals mg → BM base mg → FnG l.prog w (K w.params) mg base CX0 77 fa fd ["_law_script"] (LSp (K w.params) sp_law)) :
    PySem.W.WalkO q loose XP YP l.row.toRowW d [] (fun f vs => PySem.call f vs) :=
  walkGT (n := 63) (k := 77) (x := "_law_script") (x0 := "law") (CX := CX0) (sp := fun K => LSp K sp_law) hn (by decide) hdf ⟨rfl, by decide, by decide⟩ hY hrec F (fun K H a T ns hl hA hT hS => law_startT (q := "law.<locals>.<lambda>") hA hT hS (law_takes hl)) fun _ _ _ _ z => z
end LK
open PySem PySem.W PyProof.Rows
set_option maxRecDepth 100000 in
set_option maxHeartbeats 0 in
theorem PySem.Challenge.cw_keyedmoves_k62_values_that_are_no_texts_holds : PySem.Challenge.rw_keyedmoves_k62_values_that_are_no_texts.Holds := by
  w_on; o_law
  refine HR2.openM4 (q := LK.head_view) (loose := LK.head_loose) (K := LK.head_probe.heap_1) (as := LK.head_as) (ek := LK.head_ek) (ts := LK.head_ts) (N := 15092) (M := 14392) "special-get-raises" (by kernel_rfl) (by rfl) (fun s => by kernel_rfl) (by rfl) (fun b => match b with | false => LK.head_g1f | true => LK.head_g1t) (fun b => match b with | false => LK.head_g2f | true => LK.head_g2t) (fun b => match b with | false => LK.head_g3f | true => LK.head_g3t) (fun b => match b with | false => LK.head_g4f | true => LK.head_g4t) (fun b => match b with | false => LK.head_g5f | true => LK.head_g5t) (by rfl) (by rfl) (by rfl) (by rfl) (by first | assumption | decide +kernel) (by decide +kernel) ⟨rfl, rfl, rfl, rfl, rfl, by decide +kernel⟩ ?hw ?hc
  (case hw => w_witness2)
  k_fill
  refine LK.walk (l := PySem.Challenge.rw_keyedmoves_k62_values_that_are_no_texts) rfl rfl (fun w h Y => PySem.W.km_in_of Y) ?hrec ?F
  case hrec => kernel_rfl
  case F =>
    intro w mg fa h KX G hmg
    refine' LK.all_mk KX G hmg ?oa0 ?og0 ?oh0 ?oo0 ?os0 ?om0 ?ok0 ?on0_child_keys ?on0_way ?oa1 ?og1 ?oh1 ?oo1 ?os1 ?om1 ?ok1 ?on1_past ?on1_present ?oa2 ?og2 ?oh2 ?oo2 ?os2 ?om2 ?ok2 ?on2_held_view ?a0 ?l0 ?c0 ?k0 ?a1 ?l1 ?c1 ?k1 ?a2 ?l2 ?c2 ?k2 ?a3 ?l3 ?c3 ?k3 ?a4 ?l4 ?c4 ?k4 ?a5 ?l5 ?c5 ?k5 ?a6 ?l6 ?c6 ?k6 ?a7 ?l7 ?c7 ?k7 ?a8 ?l8 ?c8 ?k8 ?a9 ?l9 ?c9 ?k9 ?a10 ?l10 ?c10 ?k10 ?a11 ?l11 ?c11 ?k11 ?a12 ?l12 ?c12 ?k12 ?a13 ?l13 ?c13 ?k13 ?a14 ?l14 ?c14 ?k14 ?a15 ?l15 ?c15 ?k15 ?a16 ?l16 ?c16 ?k16 ?a17 ?l17 ?c17 ?k17 ?a18 ?l18 ?c18 ?k18 ?a19 ?l19 ?c19 ?k19 ?a20 ?l20 ?c20 ?k20 ?a21 ?l21 ?c21 ?k21 ?a22 ?l22 ?c22 ?k22 ?a23 ?l23 ?c23 ?k23 ?fn23 ?a24 ?l24 ?c24 ?k24 ?fn24 ?a25 ?l25 ?c25 ?k25 ?fn25 ?a26 ?l26 ?c26 ?k26 ?fn26 ?e26 ?g26 ?a27 ?l27 ?c27 ?k27 ?fn27 ?a28 ?l28 ?c28 ?k28 ?fn28 ?a29 ?l29 ?c29 ?k29 ?fn29 ?a30 ?l30 ?c30 ?k30 ?fn30 ?a31 ?l31 ?c31 ?k31 ?fn31 ?a32 ?l32 ?c32 ?k32 ?fn32 ?a33 ?l33 ?c33 ?k33 ?fn33 ?a34 ?l34 ?c34 ?k34 ?fn34 ?a35 ?l35 ?c35 ?k35 ?fn35 ?a36 ?l36 ?c36 ?k36 ?fn36 ?xa0 ?xl0 ?xv0 ?xf0 ?xi0 ?xL0 ?xc0 ?xk0 ?xt0 ?xn0 ?xa1 ?xl1 ?xv1 ?xf1 ?xe1 ?xa2 ?xl2 ?xv2 ?xf2 ?xi2 ?xL2 ?xc2 ?xk2 ?xt2 ?xn2 ?xa3 ?xl3 ?xv3 ?xf3 ?xi3 ?xL3 ?xc3 ?xk3 ?xt3 ?xn3 ?xa4 ?xl4 ?xv4 ?xf4 ?xi4 ?xL4 ?xc4 ?xk4 ?xt4 ?xn4 ?xa5 ?xl5 ?xv5 ?xf5 ?xi5 ?xL5 ?xc5 ?xk5 ?xt5 ?xn5 ?xa6 ?xl6 ?xv6 ?xf6 ?xi6 ?xL6 ?xc6 ?xk6 ?xt6 ?xn6 ?xa7 ?xl7 ?xv7 ?xf7 ?xi7 ?xL7 ?xc7 ?xk7 ?xt7 ?xn7 ?xa8 ?xl8 ?xv8 ?xf8 ?xi8 ?xL8 ?xc8 ?xk8 ?xt8 ?xn8 ?xa9 ?xl9 ?xv9 ?xf9 ?xe9 ?xa10 ?xl10 ?xv10 ?xf10 ?xi10 ?xL10 ?xc10 ?xk10 ?xt10 ?xn10 ?xa11 ?xl11 ?xv11 ?xf11 ?xi11 ?xL11 ?xc11 ?xk11 ?xt11 ?xn11 ?ba ?bsp ?brd ?bat ?bis ?bty ?bsub ?kq_BadLine ?kq_BadText ?kq_BadTree ?kq_KeyedError ?gm_KEY_COUNTS ?gl_KEY_COUNTS ?gk_KEY_COUNTS ?ge_KEY_COUNTS ?gw_KEY_COUNTS ?c_BLANK ?c_ELEMENT_PARTS ?c_FEED ?c_INDENT ?c_LEAST_COST ?c_LETTERS ?c_LONGEST_KEY ?c_MOST_COST ?c_MOST_ELEMENTS ?c_MOST_NESTED ?c_MOST_OPERATIONS ?c_PAIR ?z_ValueError ?z_abs ?z_all ?z_bool ?z_divmod ?z_enumerate ?z_int ?z_isinstance ?z_len ?z_max ?z_min ?z_range ?z_repr ?z_set ?z_str ?z_tuple ?z_zip ?hcd ?hth ?htn
    (case oa0 => k_is); (case og0 => k_is); (case oh0 => k_is); (case oo0 => k_is); (case os0 => k_is); (case om0 => k_is); (case ok0 => k_is)
    (case on0_child_keys => k_is); (case on0_way => k_is)
    (case oa1 => k_is); (case og1 => k_is); (case oh1 => k_is); (case oo1 => k_is); (case os1 => k_is); (case om1 => k_is); (case ok1 => k_is)
    (case on1_past => k_is); (case on1_present => k_is)
    (case oa2 => k_is); (case og2 => k_is); (case oh2 => k_is); (case oo2 => k_is); (case os2 => k_is); (case om2 => k_is); (case ok2 => k_is)
    (case on2_held_view => k_is)
    (case a0 => k_is); (case l0 => k_is); (case c0 => k_is); (case k0 => k_is)
    (case a1 => k_is); (case l1 => k_is); (case c1 => k_is); (case k1 => k_is)
    (case a2 => k_is); (case l2 => k_is); (case c2 => k_is); (case k2 => k_is)
    (case a3 => k_is); (case l3 => k_is); (case c3 => k_is); (case k3 => k_is)
    (case a4 => k_is); (case l4 => k_is); (case c4 => k_is); (case k4 => k_is)
    (case a5 => k_is); (case l5 => k_is); (case c5 => k_is); (case k5 => k_is)
    (case a6 => k_is); (case l6 => k_is); (case c6 => k_is); (case k6 => k_is)
    (case a7 => k_is); (case l7 => k_is); (case c7 => k_is); (case k7 => k_is)
    (case a8 => k_is); (case l8 => k_is); (case c8 => k_is); (case k8 => k_is)
    (case a9 => k_is); (case l9 => k_is); (case c9 => k_is); (case k9 => k_is)
    (case a10 => k_is); (case l10 => k_is); (case c10 => k_is); (case k10 => k_is)
    (case a11 => k_is); (case l11 => k_is); (case c11 => k_is); (case k11 => k_is)
    (case a12 => k_is); (case l12 => k_is); (case c12 => k_is); (case k12 => k_is)
    (case a13 => k_is); (case l13 => k_is); (case c13 => k_is); (case k13 => k_is)
    (case a14 => k_is); (case l14 => k_is); (case c14 => k_is); (case k14 => k_is)
    (case a15 => k_is); (case l15 => k_is); (case c15 => k_is); (case k15 => k_is)
    (case a16 => k_is); (case l16 => k_is); (case c16 => k_is); (case k16 => k_is)
    (case a17 => k_is); (case l17 => k_is); (case c17 => k_is); (case k17 => k_is)
    (case a18 => k_is); (case l18 => k_is); (case c18 => k_is); (case k18 => k_is)
    (case a19 => k_is); (case l19 => k_is); (case c19 => k_is); (case k19 => k_is)
    (case a20 => k_is); (case l20 => k_is); (case c20 => k_is); (case k20 => k_is)
    (case a21 => k_is); (case l21 => k_is); (case c21 => k_is); (case k21 => k_is)
    (case a22 => k_is); (case l22 => k_is); (case c22 => k_is); (case k22 => k_is)
    (case a23 => k_is); (case l23 => k_is); (case c23 => k_is); (case k23 => k_is); (case fn23 => k_is)
    (case a24 => k_is); (case l24 => k_is); (case c24 => k_is); (case k24 => k_is); (case fn24 => k_is)
    (case a25 => k_is); (case l25 => k_is); (case c25 => k_is); (case k25 => k_is); (case fn25 => k_is)
    (case a26 => k_is); (case l26 => k_is); (case c26 => k_is); (case k26 => k_is); (case fn26 => k_is); (case e26 => k_is); (case g26 => k_is)
    (case a27 => k_is); (case l27 => k_is); (case c27 => k_is); (case k27 => k_is); (case fn27 => k_is)
    (case a28 => k_is); (case l28 => k_is); (case c28 => k_is); (case k28 => k_is); (case fn28 => k_is)
    (case a29 => k_is); (case l29 => k_is); (case c29 => k_is); (case k29 => k_is); (case fn29 => k_is)
    (case a30 => k_is); (case l30 => k_is); (case c30 => k_is); (case k30 => k_is); (case fn30 => k_is)
    (case a31 => k_is); (case l31 => k_is); (case c31 => k_is); (case k31 => k_is); (case fn31 => k_is)
    (case a32 => k_is); (case l32 => k_is); (case c32 => k_is); (case k32 => k_is); (case fn32 => k_is)
    (case a33 => k_is); (case l33 => k_is); (case c33 => k_is); (case k33 => k_is); (case fn33 => k_is)
    (case a34 => k_is); (case l34 => k_is); (case c34 => k_is); (case k34 => k_is); (case fn34 => k_is)
    (case a35 => k_is); (case l35 => k_is); (case c35 => k_is); (case k35 => k_is); (case fn35 => k_is)
    (case a36 => k_is); (case l36 => k_is); (case c36 => k_is); (case k36 => k_is); (case fn36 => k_is)
    (case xa0 => k_is); (case xl0 => k_is); (case xv0 => rfl); (case xf0 => refine' DS.XF.mk ?_ ?_ ?_ ?_ ?_ ?_ ?_ ?_ ?_ ?_ ?_ <;> k_is)
    (case xi0 => k_is); (case xL0 => k_is); (case xc0 => k_is); (case xk0 => k_is); (case xt0 => k_is); (case xn0 => k_is)
    (case xa1 => k_is); (case xl1 => k_is); (case xv1 => rfl); (case xf1 => refine' DS.XF.mk ?_ ?_ ?_ ?_ ?_ ?_ ?_ ?_ ?_ ?_ ?_ <;> k_is)
    (case xe1 => kernel_rfl)
    (case xa2 => k_is); (case xl2 => k_is); (case xv2 => rfl); (case xf2 => refine' DS.XF.mk ?_ ?_ ?_ ?_ ?_ ?_ ?_ ?_ ?_ ?_ ?_ <;> k_is)
    (case xi2 => k_is); (case xL2 => k_is); (case xc2 => k_is); (case xk2 => k_is); (case xt2 => k_is); (case xn2 => k_is)
    (case xa3 => k_is); (case xl3 => k_is); (case xv3 => rfl); (case xf3 => refine' DS.XF.mk ?_ ?_ ?_ ?_ ?_ ?_ ?_ ?_ ?_ ?_ ?_ <;> k_is)
    (case xi3 => k_is); (case xL3 => k_is); (case xc3 => k_is); (case xk3 => k_is); (case xt3 => k_is); (case xn3 => k_is)
    (case xa4 => k_is); (case xl4 => k_is); (case xv4 => rfl); (case xf4 => refine' DS.XF.mk ?_ ?_ ?_ ?_ ?_ ?_ ?_ ?_ ?_ ?_ ?_ <;> k_is)
    (case xi4 => k_is); (case xL4 => k_is); (case xc4 => k_is); (case xk4 => k_is); (case xt4 => k_is); (case xn4 => k_is)
    (case xa5 => k_is); (case xl5 => k_is); (case xv5 => rfl); (case xf5 => refine' DS.XF.mk ?_ ?_ ?_ ?_ ?_ ?_ ?_ ?_ ?_ ?_ ?_ <;> k_is)
    (case xi5 => k_is); (case xL5 => k_is); (case xc5 => k_is); (case xk5 => k_is); (case xt5 => k_is); (case xn5 => k_is)
    (case xa6 => k_is); (case xl6 => k_is); (case xv6 => rfl); (case xf6 => refine' DS.XF.mk ?_ ?_ ?_ ?_ ?_ ?_ ?_ ?_ ?_ ?_ ?_ <;> k_is)
    (case xi6 => k_is); (case xL6 => k_is); (case xc6 => k_is); (case xk6 => k_is); (case xt6 => k_is); (case xn6 => k_is)
    (case xa7 => k_is); (case xl7 => k_is); (case xv7 => rfl); (case xf7 => refine' DS.XF.mk ?_ ?_ ?_ ?_ ?_ ?_ ?_ ?_ ?_ ?_ ?_ <;> k_is)
    (case xi7 => k_is); (case xL7 => k_is); (case xc7 => k_is); (case xk7 => k_is); (case xt7 => k_is); (case xn7 => k_is)
    (case xa8 => k_is); (case xl8 => k_is); (case xv8 => rfl); (case xf8 => refine' DS.XF.mk ?_ ?_ ?_ ?_ ?_ ?_ ?_ ?_ ?_ ?_ ?_ <;> k_is)
    (case xi8 => k_is); (case xL8 => k_is); (case xc8 => k_is); (case xk8 => k_is); (case xt8 => k_is); (case xn8 => k_is)
    (case xa9 => k_is); (case xl9 => k_is); (case xv9 => rfl); (case xf9 => refine' DS.XF.mk ?_ ?_ ?_ ?_ ?_ ?_ ?_ ?_ ?_ ?_ ?_ <;> k_is)
    (case xe9 => kernel_rfl)
    (case xa10 => k_is); (case xl10 => k_is); (case xv10 => rfl); (case xf10 => refine' DS.XF.mk ?_ ?_ ?_ ?_ ?_ ?_ ?_ ?_ ?_ ?_ ?_ <;> k_is)
    (case xi10 => k_is); (case xL10 => k_is); (case xc10 => k_is); (case xk10 => k_is); (case xt10 => k_is); (case xn10 => k_is)
    (case xa11 => k_is); (case xl11 => k_is); (case xv11 => rfl); (case xf11 => refine' DS.XF.mk ?_ ?_ ?_ ?_ ?_ ?_ ?_ ?_ ?_ ?_ ?_ <;> k_is)
    (case xi11 => k_is); (case xL11 => k_is); (case xc11 => k_is); (case xk11 => k_is); (case xt11 => k_is); (case xn11 => k_is)
    (case ba => k_is); (case bsp => k_is); (case brd => k_is); (case bat => k_is); (case bis => k_is); (case bty => k_is); (case bsub => k_is)
    (case kq_BadLine => kernel_rfl); (case kq_BadText => kernel_rfl); (case kq_BadTree => kernel_rfl); (case kq_KeyedError => kernel_rfl)
    (case gm_KEY_COUNTS => k_is); (case gl_KEY_COUNTS => k_is); (case gk_KEY_COUNTS => k_keys); (case ge_KEY_COUNTS => exact ⟨⟨_, rfl⟩, ⟨_, rfl⟩, ⟨⟨_, rfl⟩, ⟨_, rfl⟩, ⟨⟨_, rfl⟩, ⟨_, rfl⟩, ⟨⟨_, rfl⟩, ⟨_, rfl⟩, ⟨⟨_, rfl⟩, ⟨_, rfl⟩, ⟨⟨_, rfl⟩, ⟨_, rfl⟩, ⟨⟨_, rfl⟩, ⟨_, rfl⟩, ⟨⟨_, rfl⟩, ⟨_, rfl⟩, ⟨⟨_, rfl⟩, ⟨_, rfl⟩, trivial⟩⟩⟩⟩⟩⟩⟩⟩⟩); (case gw_KEY_COUNTS => decide)
    (case c_BLANK => k_is); (case c_ELEMENT_PARTS => k_is); (case c_FEED => k_is); (case c_INDENT => k_is); (case c_LEAST_COST => k_is); (case c_LETTERS => k_is); (case c_LONGEST_KEY => k_is); (case c_MOST_COST => k_is); (case c_MOST_ELEMENTS => k_is); (case c_MOST_NESTED => k_is); (case c_MOST_OPERATIONS => k_is); (case c_PAIR => k_is)
    (case z_ValueError => k_is); (case z_abs => k_is); (case z_all => k_is); (case z_bool => k_is); (case z_divmod => k_is); (case z_enumerate => k_is); (case z_int => k_is); (case z_isinstance => k_is); (case z_len => k_is); (case z_max => k_is); (case z_min => k_is); (case z_range => k_is); (case z_repr => k_is); (case z_set => k_is); (case z_str => k_is); (case z_tuple => k_is); (case z_zip => k_is)
    (case hcd => kernel_rfl); (case hth => kernel_rfl); (case htn => kernel_rfl)
