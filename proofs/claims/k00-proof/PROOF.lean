import PyProof.Rows.All
import Wide.All
import OpenK.AllK
import Wide.FinOn
import KE.KStateDown
import HandS.Words
import HandS.Head0
import HandS.Head1
import HandS.Head2
import HandS.Head3
import HandS.HeadEnd
import HandS.HeadHook1
import HandS.HeadHook2
import HandS.ForMost
import HandS.ForExc
import HandS.Wide
import HandS.WideBits
import HandS.TupAny
import HandS.Rev
import HandS.Walk
import HandS.IsInst
import HandS.ExcIs
import HandS.Small
import HandS.Gcd
import HandS.Defaults
import HandS.Evl
import KE.GoesMore
import KE.RegKIsAll
import HandS.ExcInit
import HandS.ExcInitHot
import HandS.ExcField
import HandS.HotCalls
import HandS.ExcCtx
import KE.KExcIs
import HandS.ExcValue
import PySem.Challenge.RW_cellspire_k00_bezout_and_fractions
set_option Elab.async false
set_option linter.all false
set_option maxRecDepth 100000
set_option maxHeartbeats 4000000
/-! the head read by a Hook, in parts; what is looked at -/
namespace My
open PySem PySem.Spec PyProof.Rows L2
/-! ### the Hook: facts of defs and names in parts, each looked at by a run of its own, and a look of one's own; over written addresses -/
abbrev Pt : Type := List He.Fa × List He.DefD
abbrev Pt.ob (as : List Addr) (p : Pt) (g : Addr → Option Obj) : He.AlD := He.obsD p.1 p.2 (He.frG g as)
theorem map_eqs {α β : Type} {f v : α → β} {l : List α} (h : l.map f = l.map v) {p : α} (m : p ∈ l) : f p = v p := by
  induction l with
  | nil => cases m
  | cons a l ih =>
    rw [List.map_cons, List.map_cons] at h
    injection h with h1 h2
    rcases List.mem_cons.mp m with rfl | m
    · exact h1
    · exact ih h2 m
def obsP (as : List Addr) (ps : List Pt) (ex : PySem.W.Frag → Bool) (g : Addr → Option Obj) : List He.AlD × Bool := (ps.map fun p => p.ob as g, ex (He.frG g as))
def hookP (as : List Addr) (ps : List Pt) (ex : PySem.W.Frag → Bool) : PySem.W.Hook where
  α := List He.AlD × Bool
  obs := fun s => obsP as ps ex s.heap.get?
  val := fun _ => (ps.map fun p : Pt => He.valD p.2, true)
  says := fun _ h => ∃ K : PySem.W.Frag, K.In h ∧ (∀ p ∈ ps, He.SaysD p.1 p.2 K) ∧ ex K = true
  of := fun _ s e => ⟨He.frG s.heap.get? as, He.frG_in, fun p m => map_eqs (f := fun p : Pt => p.ob as s.heap.get?) (v := fun p : Pt => He.valD p.2) (congrArg Prod.fst e) m, congrArg Prod.snd e⟩
  keeps := by
    intro _ _ _ ⟨K, hK, c⟩ k
    exact ⟨K, hK.keeps k, c⟩
theorem obsP_eq {as : List Addr} {ps : List Pt} {ex : PySem.W.Frag → Bool} {g : Addr → Option Obj} {s : Shared} (h : ∀ a, g a = s.heap.get? a) : obsP as ps ex g = (hookP as ps ex).obs s := by
  have : g = s.heap.get? := by
    funext a
    exact h a
  subst this
  rfl
/-- a run that shows v -/
abbrev hv {α : Type} (v : α) : PySem.W.Hook := ⟨α, fun _ => v, fun _ => v, fun _ _ => True, fun _ _ _ => trivial, fun _ _ _ _ _ => trivial⟩
theorem opt_all {X A B α γ : Type} {o : Option X} {L : X → A} {S : X → B} {l : A} {b : B} {ps : List γ} {f : γ → X → α} {v : γ → α} {e : X → Bool} (a : ∀ p ∈ ps, o.map (fun x => (L x, S x, f p x)) = some (l, b, v p))
    (c : o.map (fun x => (L x, S x, e x)) = some (l, b, true)) : o.map (fun x => (L x, S x, (ps.map fun p => f p x, e x))) = some (l, b, (ps.map v, true)) := by
  cases o with
  | none => cases c
  | some x =>
    rw [Option.map_some] at c ⊢
    injection c with c
    injection c with c1 c2
    injection c2 with c2 c3
    rw [c1, c2, c3]
    have : (ps.map fun p => f p x) = ps.map v := List.map_congr_left fun p m => by
      have z := a p m
      rw [Option.map_some] at z
      injection z with z
      injection z with z1 z2
      injection z2
    rw [this]
theorem runs {r : PySem.W.OpenRow} {q : Program} {M : Nat} {loose : List Str} {w : World} {as : List Addr} {ps : List Pt} {ex : PySem.W.Frag → Bool}
    (a : ∀ p ∈ ps, HandSHeadRun.RunEqI r q (hv (He.valD p.2)) (fun s => p.ob as (HandSHeadRun.getT s)) M loose w) (c : HandSHeadRun.RunEqI r q (hv true) (fun s => ex (He.frG (HandSHeadRun.getT s) as)) M loose w) :
    HandSHeadRun.RunEqI r q (hookP as ps ex) (fun s => obsP as ps ex (HandSHeadRun.getT s)) M loose w := by
  unfold HandSHeadRun.RunEqI at a c ⊢
  exact opt_all (γ := Pt) (X := Shared × PySem.W.SharedT) (f := fun p x => p.ob as (HandSHeadRun.getT x.2)) (v := fun p => He.valD p.2) (e := fun x => ex (He.frG (HandSHeadRun.getT x.2) as)) a c
theorem all_mem {α : Type} {p : α → Prop} {ps : List α} (h : ∀ a ∈ ps, p a) (i : Nat) {a : α} (e : ps[i]? = some a := by rfl) : p a := h a (List.mem_of_getElem? e)
/-- a def of the top -/
abbrev dOf (x : Str) (st : Stmt) : He.DefD := ⟨(x, none), x, x, defArgs st, defBody st, defScope st, [], []⟩
abbrev dIn (C q : Str) (st : Stmt) : He.DefD := ⟨(C, some "__init__"), "__init__", q, defArgs st, defBody st, defScope st, [], []⟩
abbrev gE (K : PySem.W.Frag) : Addr := He.ga K "CellspireError"
def baseB (K : PySem.W.Frag) : Bool := (He.Fa.glo "CellspireError").ok K && ((PySem.W.clsIn K (gE K)).isSome && decide (PySem.W.typeIn K (.ref (gE K)) = some (.type "type")))
def slB : List (Option Value) → Bool
  | [_, _, _, _, some (.builtin n), _] => decide (n = "ValueError.__new__")
  | _ => false
def clsB (C E : Addr) : Obj → Bool
  | ⟨.type t, _, .cls cd, sl⟩ => decide (t = "type") && (decide (cd.mro = [.ref C, .ref E, .type "ValueError", .type "Exception", .type "BaseException", .type "object"]) && (cd.hasDict && (!cd.hasDel && slB sl.toList)))
  | _ => false
def kindB (K : PySem.W.Frag) (x : Str) : Bool := (He.Fa.glo x).ok K && ((match K.lookup (He.ga K x) with
    | some o => clsB (He.ga K x) (gE K) o
    | none => false) && (decide (PySem.W.typeIn K (.ref (He.ga K x)) = some (.type "type")) && (He.eqO (PySem.W.findIn K (.ref (He.ga K x)) "__getattribute__") (some (some (.builtin "BaseException.__getattribute__"))) && (He.eqO (PySem.W.findIn K (.ref (He.ga K x)) "__getattr__") (some none) &&
    (decide (PySem.W.subIn K (.ref (He.ga K x)) (.type "BaseException") = some true) && (PySem.W.hasDictIn K (He.ga K x) && (He.eqO (PySem.W.findIn K (.ref (He.ga K x)) "__class__") (some (some (.builtin "object.__class__"))) && (He.eqO (PySem.W.specialIn K (.builtin "object.__class__") "__get__") (some (some (.builtin "getset_descriptor.__get__"))) &&
    (decide (PySem.W.takesIn K (.builtin "object.__class__") = some true) && decide (PySem.W.mroIn K (He.ga K x) (.type "object") = some true))))))))))
def excB (K : PySem.W.Frag) (x : Str) : Bool := PySem.W.excIn K (He.ga K x) [.type "ValueError", .type "Exception", .type "BaseException", .type "object"] "ValueError.__new__" && PySem.W.keepIn K (.ref (He.ga K x))
def ownB (K : PySem.W.Frag) (x : Str) : Bool := He.eqO (PySem.W.findIn K (.ref (He.ga K x)) "__setattr__") (some (some (.builtin "object.__setattr__"))) && (PySem.W.keepIn K (.ref (He.ga K x)) && (He.eqO (PySem.W.findIn K (.ref (He.ga K x)) "__init__") (some (some (.ref (He.fAd K (x, some "__init__"))))) &&
  decide (PySem.W.typeIn K (.ref (He.fAd K (x, some "__init__"))) = some (.type "function"))))
/-- the module's name x is this built-in -/
def bltB (K : PySem.W.Frag) (x : Str) (n : String) : Bool := He.eqO (PySem.W.nsIn K mainGlobals x) (some (some (.builtin n)))
end My
namespace MyH
open My PySem PySem.Spec PyProof.Rows L2
def topR (i : Nat) : Stmt := PySem.Challenge.pw_cellspire_k00_bezout_and_fractions.main.body.getD i (.Pass ⟨0, 0, 0, 0⟩)
def fa0 : List He.Fa := [.glo "sign_of", .glo "compare", .glo "floor", .glo "_law_is_integer", .glo "_law_same", .glo "_law_cell", .glo "_law_box", .glo "_law_take", .glo "_law_turned", .glo "_law_power", .glo "_law_limbs", .glo "_law_gcd", .glo "_law_lowest", .glo "_law_long", .glo "_law_number", .glo "fraction", .glo "plus", .glo "minus", .glo "times", .glo "over", .glo "bezout", .glo "_law_bezout_holds", .glo "_law_two", .glo "_law_pair", .glo "_law_order_holds", .glo "_law_floor_holds", .glo "_law_due", .glo "_law_done", .glo "_law_number_is", .glo "_law_kinds"]
def fa1 : List He.Fa := [.glo "_law_alone", .glo "_law_word_is", .glo "_law_fraction_holds", .glo "_law_over_refused", .glo "_law_sums_hold", .glo "_law_two_hold", .glo "_law_beside", .glo "_law_run_holds", .glo "_law_plain_errors_hold", .glo "_law_numbered_errors_hold", .glo "_law_lines_hold", .glo "_law_word", .glo "_law_unknown_errors_hold", .glo "_law_named_errors_hold", .glo "_law_tuple_errors_hold", .glo "_law_errors_hold", .glo "law", .free "len", .free "tuple", .free "int", .free "bool", .free "range", .free "isinstance", .free "abs", .free "min", .free "str", .free "ValueError", .noat "InvalidStretch" "low", .noat "InvalidStretch" "high", .noat "InvalidText" "at"]
def fa2 : List He.Fa := [.noat "InvalidUnknown" "unknown", .noat "NoUnknown" "unknown", .noat "HasFree" "unknown", .noat "Reducible" "row", .noat "NoRoot" "which", .noat "InvalidCode" "at", .noat "TooDeep" "product", .noat "TooLarge" "what", .noat "InvalidPiece" "which", .noat "NoPiece" "which", .noat "InvalidSpot" "level", .noat "Vanishes" "level", .noat "NoCell" "cell", .noat "InvalidLine" "line", .noat "InvalidSave" "line", .noat "InvalidName" "name", .noat "Missing" "name", .noat "Circular" "name", .noat "NotASentence" "name"]
def fa : List He.Fa := fa0 ++ (fa1 ++ (fa2))
def loose0 : List Str := ["CellspireError", "DivisionByZero", "ZeroPolynomial", "HasQuantifier", "NotOneUnknown", "NothingToUndo", "InvalidPoly", "InvalidStretch", "InvalidText", "InvalidUnknown", "NoUnknown", "HasFree", "Reducible", "NoRoot", "InvalidCode", "TooDeep", "TooLarge", "InvalidPiece", "NoPiece", "InvalidSpot", "Vanishes", "NoCell", "InvalidLine", "InvalidSave", "InvalidName", "Missing", "Circular", "NotASentence", "sign_of", "bezout"]
def loose1 : List Str := ["fraction", "plus", "minus", "times", "over", "compare", "floor", "_law_is_integer", "_law_same", "_law_cell", "_law_box", "_law_take", "_law_turned", "_law_power", "_law_limbs", "_law_long", "_law_gcd", "_law_lowest", "_law_two", "_law_bezout_holds", "_law_pair", "_law_fraction_holds", "_law_number", "_law_beside", "_law_due", "_law_done", "_law_order_holds", "_law_floor_holds", "_law_over_refused", "_law_sums_hold"]
def loose2 : List Str := ["_law_two_hold", "_law_run_holds", "_law_kinds", "_law_alone", "_law_plain_errors_hold", "_law_number_is", "_law_word_is", "_law_numbered_errors_hold", "_law_lines_hold", "_law_word", "_law_unknown_errors_hold", "_law_named_errors_hold", "_law_tuple_errors_hold", "_law_errors_hold"]
def loose : List Str := loose0 ++ (loose1 ++ (loose2))
abbrev R : PySem.W.OpenRow := PySem.W.OpenLaw.row PySem.Challenge.rw_cellspire_k00_bezout_and_fractions
def ex (K : PySem.W.Frag) : Bool := baseB K && ((["DivisionByZero", "ZeroPolynomial", "HasQuantifier", "NotOneUnknown", "NothingToUndo", "InvalidPoly", "InvalidStretch", "InvalidText", "InvalidUnknown", "NoUnknown", "HasFree", "Reducible", "NoRoot", "InvalidCode", "TooDeep", "TooLarge", "InvalidPiece", "NoPiece", "InvalidSpot", "Vanishes", "NoCell", "InvalidLine", "InvalidSave", "InvalidName", "Missing", "Circular", "NotASentence"] : List Str).all (kindB K) && ((["DivisionByZero", "ZeroPolynomial", "HasQuantifier", "NotOneUnknown", "NothingToUndo", "InvalidPoly"] : List Str).all (excB K) && ((["InvalidStretch", "InvalidText", "InvalidUnknown", "NoUnknown", "HasFree", "Reducible", "NoRoot", "InvalidCode", "TooDeep", "TooLarge", "InvalidPiece", "NoPiece", "InvalidSpot", "Vanishes", "NoCell", "InvalidLine", "InvalidSave", "InvalidName", "Missing", "Circular", "NotASentence"] : List Str).all (ownB K) && (bltB K "gcd" "math.gcd" && (decide (((["DivisionByZero", "ZeroPolynomial", "HasQuantifier", "NotOneUnknown", "NothingToUndo", "InvalidPoly", "InvalidStretch", "InvalidText", "InvalidUnknown", "NoUnknown", "HasFree", "Reducible", "NoRoot", "InvalidCode", "TooDeep", "TooLarge", "InvalidPiece", "NoPiece", "InvalidSpot", "Vanishes", "NoCell", "InvalidLine", "InvalidSave", "InvalidName", "Missing", "Circular", "NotASentence"] : List Str).map (He.ga K)).Nodup) && !((["DivisionByZero", "ZeroPolynomial", "HasQuantifier", "NotOneUnknown", "NothingToUndo", "InvalidPoly", "InvalidStretch", "InvalidText", "InvalidUnknown", "NoUnknown", "HasFree", "Reducible", "NoRoot", "InvalidCode", "TooDeep", "TooLarge", "InvalidPiece", "NoPiece", "InvalidSpot", "Vanishes", "NoCell", "InvalidLine", "InvalidSave", "InvalidName", "Missing", "Circular", "NotASentence"] : List Str).map (He.ga K)).contains (gE K))))))
def la0 : List Addr := [540, 541, 542, 543, 544, 545, 546, 547, 548, 549, 550, 551, 552, 553, 554, 555, 556, 557, 558, 559, 560, 561, 562, 563, 564, 565, 566, 567, 568, 569, 570, 571, 572, 573, 574, 575, 576, 577, 578, 579, 580, 581, 582, 583, 584, 585, 586, 587, 588, 589, 590, 591, 592, 593, 594, 595, 596, 597, 598, 599, 600, 601, 602, 603, 604, 605, 606, 607, 608, 609, 610, 611, 612, 613, 614, 615, 616, 617, 618, 619, 620, 621, 622, 623, 624, 625, 626, 627, 628, 629, 630, 631, 632, 633, 634, 635, 636, 637, 638, 639, 640, 641, 642, 643, 644, 645, 646, 647, 648, 649, 650, 651, 652, 653, 654, 655, 656, 657, 658, 659, 660, 661, 662, 663, 664, 665, 666, 667, 668, 669, 670, 671, 672, 673, 674, 675, 676, 677, 678, 679, 680, 681, 682, 683, 684, 685, 686, 687, 688, 689]
def la1 : List Addr := [690, 691, 692, 693, 694, 695, 696, 697, 698, 699, 700, 701, 702, 703, 704, 705, 706, 707, 708, 709, 710, 711, 712, 713, 714, 715, 716, 717, 718, 719, 720, 721, 722, 723, 724, 725, 726, 727, 728, 729, 730, 731, 732, 733, 734, 735, 736, 737, 738, 739, 740, 741, 742, 743, 744, 745, 746, 747, 748, 749, 750, 751, 752, 753, 754, 755, 756, 757, 758, 759, 760, 761, 762, 763, 764, 765, 766, 767, 768, 769, 770, 771, 772, 773, 774, 775, 776, 777, 778, 779, 780, 781, 782, 783, 784, 785, 786, 787, 788, 789, 790, 791, 792, 793, 794, 795, 796, 797, 798, 799, 800, 801, 802, 803, 804, 805, 806, 807, 808, 809, 810, 811, 812, 813, 814, 815, 816, 817, 818, 819, 820, 821, 822, 823, 824, 825, 826, 827, 828, 829, 830, 831, 832, 833, 834, 835, 836, 837, 838, 839]
def la2 : List Addr := [840, 841, 842, 843, 844, 845, 846, 847, 848, 849, 850, 851, 852, 853, 854, 855, 856, 857, 858, 859, 860, 861, 862, 863, 864, 865, 866, 867, 868, 869, 870, 871, 872, 873, 874, 875, 876, 877, 878, 879, 880, 881, 882, 883, 884, 885, 886, 887, 888, 889, 890, 891, 892, 893, 894, 895, 896, 897, 898, 899, 270, 271, 272, 273, 274, 275, 276, 277, 278, 279, 280, 281, 282, 283, 284, 285, 286, 287, 288, 289, 290, 291, 292, 293, 294, 295, 296, 297, 298, 299, 300, 301, 302, 303, 304, 305, 306, 307, 308, 309, 310, 311, 312, 313, 314, 315, 316, 317, 318, 319, 320, 321, 322, 323, 324, 325, 326, 327, 328, 329, 330, 331, 332, 333, 334, 335, 336, 337, 338, 339, 340, 341, 342, 343, 344, 345, 346, 347, 348, 349, 350, 351, 352, 353, 354, 355, 356, 357, 358, 359]
def la3 : List Addr := [360, 361, 362, 363, 364, 365, 366, 367, 368, 369, 370, 371, 372, 373, 374, 375, 376, 377, 378, 379, 380, 381, 382, 383, 384, 385, 386, 387, 388, 389, 390, 391, 392, 393, 394, 395, 396, 397, 398, 399, 400, 401, 402, 403, 404, 405, 406, 407, 408, 409, 410, 411, 412, 413, 414, 415, 416, 417, 418, 419, 420, 421, 422, 423, 424, 425, 426, 427, 428, 429, 430, 431, 432, 433, 434, 435, 436, 437, 438, 439, 440, 441, 442, 443, 444, 445, 446, 447, 448, 449, 450, 451, 452, 453, 454, 455, 456, 457, 458, 459, 460, 461, 462, 463, 464, 465, 466, 467, 468, 469, 470, 471, 472, 473, 474, 475, 476, 477, 478, 479, 480, 481, 482, 483, 484, 485, 486, 487, 488, 489, 490, 491, 492, 493, 494, 495, 496, 497, 498, 499, 500, 501, 502, 503, 504, 505, 506, 507, 508, 509]
def la4 : List Addr := [510, 511, 512, 513, 514, 515, 516, 517, 518, 519, 520, 521, 522, 523, 524, 525, 526, 527, 528, 529, 530, 531, 532, 533, 534, 535, 536, 537, 538, 539, 0, 1, 2, 3, 4, 5, 6, 7, 8, 9, 10, 11, 12, 13, 14, 15, 16, 17, 18, 19, 20, 21, 22, 23, 24, 25, 26, 27, 28, 29, 30, 31, 32, 33, 34, 35, 36, 37, 38, 39, 40, 41, 42, 43, 44, 45, 46, 47, 48, 49, 50, 51, 52, 53, 54, 55, 56, 57, 58, 59, 60, 61, 62, 63, 64, 65, 66, 67, 68, 69, 70, 71, 72, 73, 74, 75, 76, 77, 78, 79, 80, 81, 82, 83, 84, 85, 86, 87, 88, 89, 90, 91, 92, 93, 94, 95, 96, 97, 98, 99, 100, 101, 102, 103, 104, 105, 106, 107, 108, 109, 110, 111, 112, 113, 114, 115, 116, 117, 118, 119]
def la5 : List Addr := [120, 121, 122, 123, 124, 125, 126, 127, 128, 129, 130, 131, 132, 133, 134, 135, 136, 137, 138, 139, 140, 141, 142, 143, 144, 145, 146, 147, 148, 149, 150, 151, 152, 153, 154, 155, 156, 157, 158, 159, 160, 161, 162, 163, 164, 165, 166, 167, 168, 169, 170, 171, 172, 173, 174, 175, 176, 177, 178, 179, 180, 181, 182, 183, 184, 185, 186, 187, 188, 189, 190, 191, 192, 193, 194, 195, 196, 197, 198, 199, 200, 201, 202, 203, 204, 205, 206, 207, 208, 209, 210, 211, 212, 213, 214, 215, 216, 217, 218, 219, 220, 221, 222, 223, 224, 225, 226, 227, 228, 229, 230, 231, 232, 233, 234, 235, 236, 237, 238, 239, 240, 241, 242, 243, 244, 245, 246, 247, 248, 249, 250, 251, 252, 253, 254, 255, 256, 257, 258, 259, 260, 261, 262, 263, 264, 265, 266, 267, 268, 269]
def la : List Addr := la0 ++ (la1 ++ (la2 ++ (la3 ++ (la4 ++ (la5)))))
def as_ : List Addr := mainGlobals :: la
def fp0 : List He.DefD := [dOf "sign_of" (topR 31), dOf "compare" (topR 38), dOf "floor" (topR 39), dOf "_law_is_integer" (topR 41), dOf "_law_same" (topR 42), dOf "_law_cell" (topR 43), dOf "_law_box" (topR 44), dOf "_law_take" (topR 45), dOf "_law_turned" (topR 46), dOf "_law_power" (topR 47), dOf "_law_limbs" (topR 48), dOf "_law_gcd" (topR 50), dOf "_law_lowest" (topR 51), dOf "_law_long" (topR 49), dOf "_law_number" (topR 56), ⟨("fraction", none), "fraction", "fraction", defArgs (topR 33), defBody (topR 33), defScope (topR 33), [.int 1], []⟩, dOf "plus" (topR 34), dOf "minus" (topR 35), dOf "times" (topR 36), dOf "over" (topR 37), dOf "bezout" (topR 32), dOf "_law_bezout_holds" (topR 53), dOf "_law_two" (topR 52), dOf "_law_pair" (topR 54), dOf "_law_order_holds" (topR 60), dOf "_law_floor_holds" (topR 61), dOf "_law_due" (topR 58), dOf "_law_done" (topR 59), dOf "_law_number_is" (topR 69), dOf "_law_kinds" (topR 66), dOf "_law_alone" (topR 67), dOf "_law_word_is" (topR 70), dOf "_law_fraction_holds" (topR 55), dOf "_law_over_refused" (topR 62), dOf "_law_sums_hold" (topR 63), dOf "_law_two_hold" (topR 64), dOf "_law_beside" (topR 57), dOf "_law_run_holds" (topR 65), dOf "_law_plain_errors_hold" (topR 68), dOf "_law_numbered_errors_hold" (topR 71)]
def fp1 : List He.DefD := [dOf "_law_lines_hold" (topR 72), dOf "_law_word" (topR 73), dOf "_law_unknown_errors_hold" (topR 74), dOf "_law_named_errors_hold" (topR 75), dOf "_law_tuple_errors_hold" (topR 76), dOf "_law_errors_hold" (topR 77), dOf "law" (topR 78), dIn "InvalidStretch" "InvalidStretch.__init__" (inClass (topR 9) 0), dIn "InvalidText" "InvalidText.__init__" (inClass (topR 10) 0), dIn "InvalidUnknown" "InvalidUnknown.__init__" (inClass (topR 11) 0), dIn "NoUnknown" "NoUnknown.__init__" (inClass (topR 12) 0), dIn "HasFree" "HasFree.__init__" (inClass (topR 13) 0), dIn "Reducible" "Reducible.__init__" (inClass (topR 14) 0), dIn "NoRoot" "NoRoot.__init__" (inClass (topR 15) 0), dIn "InvalidCode" "InvalidCode.__init__" (inClass (topR 16) 0), dIn "TooDeep" "TooDeep.__init__" (inClass (topR 17) 0), dIn "TooLarge" "TooLarge.__init__" (inClass (topR 18) 0), dIn "InvalidPiece" "InvalidPiece.__init__" (inClass (topR 19) 0), dIn "NoPiece" "NoPiece.__init__" (inClass (topR 20) 0), dIn "InvalidSpot" "InvalidSpot.__init__" (inClass (topR 21) 0), dIn "Vanishes" "Vanishes.__init__" (inClass (topR 22) 0), dIn "NoCell" "NoCell.__init__" (inClass (topR 23) 0), dIn "InvalidLine" "InvalidLine.__init__" (inClass (topR 24) 0), dIn "InvalidSave" "InvalidSave.__init__" (inClass (topR 25) 0), dIn "InvalidName" "InvalidName.__init__" (inClass (topR 26) 0), dIn "Missing" "Missing.__init__" (inClass (topR 27) 0), dIn "Circular" "Circular.__init__" (inClass (topR 28) 0), dIn "NotASentence" "NotASentence.__init__" (inClass (topR 29) 0)]
abbrev ps_ : List Pt := [(fa, []), ([], fp0), ([], fp1)]
theorem run0 (w : World) : HandSHeadRun.RunEqI R (PySem.W.view R.prog [0, 78]) (hv (He.valD ((fa, []) : Pt).2)) (fun s => Pt.ob as_ (fa, []) (HandSHeadRun.getT s)) 20000 loose w := by
  unfold HandSHeadRun.RunEqI
  kernel_rfl
theorem run1 (w : World) : HandSHeadRun.RunEqI R (PySem.W.view R.prog [0, 78]) (hv (He.valD (([], fp0) : Pt).2)) (fun s => Pt.ob as_ ([], fp0) (HandSHeadRun.getT s)) 20000 loose w := by
  unfold HandSHeadRun.RunEqI
  kernel_rfl
theorem run2 (w : World) : HandSHeadRun.RunEqI R (PySem.W.view R.prog [0, 78]) (hv (He.valD (([], fp1) : Pt).2)) (fun s => Pt.ob as_ ([], fp1) (HandSHeadRun.getT s)) 20000 loose w := by
  unfold HandSHeadRun.RunEqI
  kernel_rfl
theorem runE (w : World) : HandSHeadRun.RunEqI R (PySem.W.view R.prog [0, 78]) (hv true) (fun s => ex (He.frG (HandSHeadRun.getT s) as_)) 20000 loose w := by
  unfold HandSHeadRun.RunEqI
  kernel_rfl
abbrev hk : PySem.W.Hook := hookP as_ ps_ ex
theorem ob_eq (s : PySem.W.SharedT) : obsP as_ ps_ ex (HandSHeadRun.getT s) = hk.obs s.abs := obsP_eq (HandSHeadRun.getT_eq s)
theorem run (w : World) : HandSHeadRun.RunEqI R (PySem.W.view R.prog [0, 78]) hk (fun s => obsP as_ ps_ ex (HandSHeadRun.getT s)) 20000 loose w :=
  runs (r := R) (q := (PySem.W.view R.prog [0, 78])) (M := 20000) (loose := loose) (w := w) (as := as_) (ps := ps_) (ex := ex) (List.forall_mem_cons.mpr ⟨run0 w,  (List.forall_mem_cons.mpr ⟨run1 w,  (List.forall_mem_cons.mpr ⟨run2 w, (fun _ m => nomatch m)⟩)⟩)⟩) (runE w)
end MyH
namespace My
open PySem PySem.Spec PyProof.Rows L2

/-! ### rules that were lacking: * and // of any size, enumerate over a tuple, a def called by its name -/
section
variable {X : Cx}
theorem op_mulG : OpR X (binaryOp .Mult) (rI IntMulOk fun i j => .int (i * j)) := opI fun _ _ _ _ _ _ _ hc q => mul_int q hc
def CDivG (_ j : Int) : Prop := j ≠ 0 ∧ j.natAbs.log2 < 9000
theorem op_fdivG : OpR X (binaryOp .FloorDiv) (rI CDivG fun i j => .int (i.fdiv j)) := opI fun i j _ _ _ _ _ hc q => floordiv_int hc.1 q (.inl (PyProof.noPylong_of_log2 hc.2))
end
theorem mul_ok_r {i j : Int} (h : j.natAbs < 2 ^ 63) : IntMulOk i j := CMul.ok (.inr ⟨by omega, by omega⟩)
theorem mul_ok_l {i j : Int} (h : i.natAbs < 2 ^ 63) : IntMulOk i j := CMul.ok (.inl ⟨by omega, by omega⟩)
theorem mul_ok {i j : Int} {a b : Nat} (ha : i.natAbs < 2 ^ a) (hb : j.natAbs < 2 ^ b) (h : a + b ≤ 134217728) : IntMulOk i j := CMulX.ok (mulx_ok ha hb h)
theorem div_ok {i j : Int} {b : Nat} (h : j ≠ 0) (hb : j.natAbs < 2 ^ b) (h9 : b ≤ 9000) : CDivG i j := by
  have h0 : 0 < b := by
    rcases Nat.eq_zero_or_pos b with z | z
    · subst z
      have : j.natAbs < 1 := hb
      omega
    · exact z
  exact ⟨h, Nat.lt_of_lt_of_le (PySem.Flt.log2_lt_of h0 hb) h9⟩

section
variable {prog : Program} {w : World} {A : Around} {E : Value → Shared → Prop} {s : Shared}
set_option maxHeartbeats 1000000 in
theorem meets_enumerate_newT (a : Addr) (items : Array Value) :
    Meets (Builtin.«enumerate.__new__» ⟨[.type "enumerate", .ref a], []⟩) (fun _ R s => s.heap.IsTuple a items ∧
      R (.ok (.ret (.ref (s.heap.push { cls := .type "tuple_iterator", data := .fields #[.ref a, .int 0 0] }).objs.size)))
        { s with heap := (s.heap.push { cls := .type "tuple_iterator", data := .fields #[.ref a, .int 0 0] }).push { cls := .type "enumerate", data := .fields #[.none, .bool false, .ref s.heap.objs.size, rawInt 0, .none, .none] } }) :=
  .of_wp fun prog w A R s h => by
    obtain ⟨hp, g, d, tk, os⟩ := s
    obtain ⟨hT, h⟩ := h
    have hsub := sub_enumerate
    have q1 : ∀ {A' : Around} {E : Value → Shared → Prop} {Q : Value → Shared → Prop}, Q (.ref hp.objs.size) ⟨hp.push { cls := .type "tuple_iterator", data := .fields #[.ref a, .int 0 0] }, g, d, tk, os⟩ → wpAny (model prog w) A' (pyIter (.ref a)) Q E ⟨hp, g, d, tk, os⟩ :=
      fun q => wpAny_pyIter_tuple (s := ⟨hp, g, d, tk, os⟩) hT q
    wp_walk using q1
    refine wpAny_stack_any fun st => wpAny_pure ?_
    split
    · rename_i c _ _ _ _ _
      cases (c == Value.type "enumerate")
      · wp_walk using q1
        exact ⟨_, rfl, h⟩
      · wp_walk using q1
        exact ⟨_, rfl, h⟩
    · wp_walk using q1
      exact ⟨_, rfl, h⟩
theorem call_enumerate_tuple {a : Addr} {items : Array Value} {Q : Value → Shared → Prop} (hL : s.heap.IsTuple a items)
    (h : ∀ h', IsEnum h' (s.heap.objs.size + 1) s.heap.objs.size 0 .none → h'.IsTupleIter s.heap.objs.size a 0 → h'.objs.size = s.heap.objs.size + 2 →
      (∀ b o, s.heap.get? b = some o → h'.get? b = some o) → Q (.ref (s.heap.objs.size + 1)) { s with heap := h' }) :
    wpAny (model prog w) A (call (.type "enumerate") [.ref a]) Q E s := by
  refine callType_new F.called_enumerate (by decide) (F.typeCall_enumerate_1 _) (F.newCall_enumerate_1 _) (fun obj => F.args_object_init_2 obj _) F.entry_enumerate_new
    (meets_enumerate_newT a items) ⟨hL, ?_⟩
  have hz : (s.heap.push { cls := .type "tuple_iterator", data := .fields #[.ref a, .int 0 0] }).objs.size = s.heap.objs.size + 1 := Heap.size_push ..
  show _ ∧ _
  rw [hz]
  have he : IsEnum ((s.heap.push { cls := .type "tuple_iterator", data := .fields #[.ref a, .int 0 0] }).push
      { cls := .type "enumerate", data := .fields #[.none, .bool false, .ref s.heap.objs.size, rawInt 0, .none, .none] }) (s.heap.objs.size + 1) s.heap.objs.size 0 .none := by
    have := Heap.get?_push_size (s.heap.push { cls := .type "tuple_iterator", data := .fields #[.ref a, .int 0 0] })
      (o := { cls := .type "enumerate", data := .fields #[.none, .bool false, .ref s.heap.objs.size, rawInt 0, .none, .none] }) rfl
    rw [hz] at this; exact this
  refine ⟨⟨_, he, rfl⟩, h _ he ⟨_, Heap.get?_push_of_some _ (Heap.get?_push_size _ rfl), rfl, rfl⟩ (by rw [Heap.size_push, hz]) fun b o x => Heap.get?_push_of_some _ (Heap.get?_push_of_some _ x)⟩
end
def IteT (K : PySem.W.Frag) (a : Addr) (n : Nat) : It :=
  ⟨fun i H => i < n ∧ ∃ (xs : List V) (x : V), SqT K H a xs ∧ xs[i]? = some x, fun i H v H' => ∃ T x, v = .ref T ∧ H T = none ∧ H' = upd H T (.tup [.int (i : Nat), x]) ∧ ∀ xs, SqT K H a xs → xs[i]? = some x, fun i H => n ≤ i ∧ ∃ xs : List V, SqT K H a xs ∧ xs.length = n⟩
theorem turn_enumT {P : Program} {w : World} {K : PySem.W.Frag} {elts : List Expr} {kk : Nat} {tpos : Pos} (a e it : Addr) (n : Nat) :
    Turn P w K (.Tuple elts kk tpos) (IteT K a n) [e, it] e (fun i h => (∃ old, IsEnum h e it ((i : Nat) : Int) old) ∧ h.IsTupleIter it a i ∧ e ≠ it ∧ i ≤ n) where
  mem := by simp
  obj := fun i h st b hb => by
    obtain ⟨⟨old, he⟩, ⟨o, ho, hc, hd⟩, _⟩ := st
    have e' : b = e ∨ b = it := by simpa using hb
    rcases e' with z | z
    · rw [z]; exact ⟨_, he, fun v q => nomatch q⟩
    · rw [z]; exact ⟨o, ho, fun v q => by rw [hd] at q; cases q⟩
  keep := fun i h h' st k => let ⟨⟨old, he⟩, hi, hne⟩ := st; ⟨⟨old, k e (by simp) _ he⟩, hi.at fun o q => k it (by simp) o q, hne⟩
  item := by
    intro X hP hw hK hc i pins s σ H E I hf st hg
    subst hP hw hK
    obtain ⟨⟨old, he⟩, hit, hne, hin⟩ := st
    obtain ⟨hlt, xs, x, hq, hx⟩ := hg
    obtain ⟨its, rv, p, hz⟩ := I.tuple hq
    obtain ⟨u, hu, ru⟩ := rv.get hx
    have hel : e < s.heap.objs.size := Heap.lt_size he
    have hil : it < s.heap.objs.size := by obtain ⟨_, q, _⟩ := hit; exact Heap.lt_size q
    have ha : ∃ o, s.heap.get? a = some o ∧ o.cls = .type "tuple" := by obtain ⟨o, h1, h2, _⟩ := p; exact ⟨o, h1, h2⟩
    obtain ⟨oa, hoa, hca⟩ := ha
    have hae : a ≠ e := fun z => by
      rw [z, he] at hoa
      have hoa := Option.some.inj hoa
      rw [← hoa] at hca
      exact absurd (show Value.type "enumerate" = Value.type "tuple" from hca) (by decide)
    have hai : a ≠ it := fun z => by
      obtain ⟨o, h1, h2, _⟩ := hit
      rw [z, h1] at hoa
      cases hoa
      rw [h2] at hca
      exact absurd hca (by decide)
    have hT0 : s.heap.IsTuple a its.toArray := p
    have D := Draws.tuple (prog := X.prog) (w := X.w) (A := X.A.in1) (show X.A.in1.handled = none from I.ok.hd hc) it a hai its.toArray
    have hilt : i < its.toArray.size := by
      have := (List.getElem?_eq_some_iff.mp hu).1
      simpa using this
    refine wpAny_pyNext_enum_itemD D he ⟨hit, hT0⟩ hilt hne (by simp [hne, Ne.symm hae]) fun x' h' tk hP' ho hst' hT hsz hk => ?_
    have eu : x' = u := by
      have q : its.toArray[i]? = some x' := hP'
      rw [List.getElem?_toArray, hu] at q
      exact (Option.some.inj q).symm
    subst eu
    obtain ⟨hit', _⟩ := hst'
    refine ⟨_, rfl, wpAny_letOwnedTupleGo_enum (s := { s with heap := h', toks := tk + 1 }) ho fun h'' he' sb => ?_⟩
    have hT2 : h''.get? s.heap.objs.size = some { cls := .type "tuple", data := .seq #[.int i tk, x'] } := (sb.2 _ (Nat.ne_of_gt hel)).trans hT
    have new : ObjOk X.prog X.w (upd H s.heap.objs.size (.tup [.int (i : Nat), x])) h'' s.heap.objs.size (.tup [.int (i : Nat), x]) :=
      ⟨by show 2 ≤ sizeLine; decide, [.int i tk, x'], .cons ⟨_, rfl⟩ (.cons ru .nil), ⟨_, hT2, rfl, _, rfl⟩⟩
    have I1 : Inv X pins σ (upd H s.heap.objs.size (.tup [.int (i : Nat), x])) { s with heap := h'', toks := tk + 1 } :=
      I.turnedNew (ch := [e, it]) (fun b ob hb q => (sb.2 b (fun z => hb (by simp [z]))).trans (hk b ob (fun z => hb (by simp [z])) (fun z => hb (by simp [z])) q)) hf (Nat.le_refl _) new
    refine ⟨.ref s.heap.objs.size, _, I1, rfl, ⟨_, x, rfl, I.hok.fresh (Nat.le_refl _), rfl, fun ys hy => by rw [I.tuple_inj hy hq]; exact hx⟩, ⟨⟨x', ?_⟩, hit'.at fun o q => (sb.2 it (Ne.symm hne)).trans q, hne, hlt⟩, fun b hb => ?_⟩
    · have e1 : ((i + 1 : Nat) : Int) = (i : Int) + 1 := by omega
      rw [e1]; exact he'
    · have hb' : b < s.heap.objs.size := by
        have e' : b = e ∨ b = it := by simpa using hb
        rcases e' with z | z
        · rw [z]; exact hel
        · rw [z]; exact hil
      rw [upd_ne (Nat.ne_of_lt hb')]
      exact (hf b hb).1
  done := by
    intro X hP hw hK hc i pins s σ H E I hf st hg
    subst hP hw hK
    obtain ⟨⟨old, he⟩, hit, hne, hin⟩ := st
    obtain ⟨hge, xs, hq, hxl⟩ := hg
    obtain ⟨its, rv, p, hz⟩ := I.tuple hq
    obtain ⟨f0, f1, f2, f3, f4, f5⟩ := hf it (by simp)
    have hl := rv.length
    have ha : ∃ o, s.heap.get? a = some o ∧ o.cls = .type "tuple" := by obtain ⟨o, h1, h2, _⟩ := p; exact ⟨o, h1, h2⟩
    obtain ⟨oa, hoa, hca⟩ := ha
    have hai : a ≠ it := fun z => by
      obtain ⟨o, h1, h2, _⟩ := hit
      rw [z, h1] at hoa
      cases hoa
      rw [h2] at hca
      exact absurd hca (by decide)
    have D := Draws.tuple (prog := X.prog) (w := X.w) (A := X.A.in1) (show X.A.in1.handled = none from I.ok.hd hc) it a hai its.toArray
    have ei : i = its.toArray.size := by
      simp only [List.size_toArray]
      omega
    refine wpAny_pyNext_enum_endD D he (show s.heap.IsTupleIter it a its.toArray.size ∧ s.heap.IsTuple a its.toArray from ⟨by rw [← ei]; exact hit, p⟩) fun h' eb => ⟨rfl, I.turned (t' := s.toks) (fun b o hb q => eb b o hb q) f0 f1 f3 f4 f5⟩
  self := fun A i s Q E st h => let ⟨⟨_, he⟩, _⟩ := st; wpAny_pyIter_enum he h
def iEnumT (K : PySem.W.Frag) (ta : TA) : TI := fun σ H R => ta σ H fun vs H1 => ∃ a xs, vs = [.ref a] ∧ SqT K H1 a xs ∧ R (IteT K a xs.length) H1
theorem pi_enumT {X : Cx} {e : Expr} {ta : TA} {p pos tpos : Pos} {elts : List Expr} {kk : Nat} (hg : Gl X "enumerate") (hm : X.mg "enumerate" = none) (ha : PA X [e] ta) (hs : starEach [e] X.env = [(false, eval e X.env)] := by rfl) :
    PI X (.Tuple elts kk tpos) (.Call (.Name "enumerate" p) [e] [] pos) (iEnumT X.K ta) := by
  refine ⟨fun pins s σ H R I h => ?_⟩
  refine Call_ (ld_blt I hg hm boot_enumerate (PyProof.Rows.callWith_type1 (thn (ha.run pos pins s σ H _ I h) fun us s1 ⟨vs, H1, I1, r1, q1⟩ => ?_) hs rfl))
  obtain ⟨a, xs, ex, hq, q⟩ := q1
  subst ex
  cases r1 with
  | cons r rr =>
    cases rr
    cases r
    obtain ⟨its, rv, p', hz⟩ := I1.tuple hq
    refine call_enumerate_tuple (show s1.heap.IsTuple a its.toArray from p') fun h' he hit hsz hk => wpAny_pyIter_enum he ?_
    have I2 : Inv X pins σ H1 { s1 with heap := h' } := I1.kept (t' := s1.toks) hk
    refine ⟨s1.heap.objs.size + 1, [s1.heap.objs.size + 1, s1.heap.objs.size], _, _, H1, rfl, I2, turn_enumT a (s1.heap.objs.size + 1) s1.heap.objs.size xs.length, ⟨⟨.none, he⟩, hit, Nat.succ_ne_self _, Nat.zero_le _⟩, fun b hb => ?_, q⟩
    have e' : b = s1.heap.objs.size + 1 ∨ b = s1.heap.objs.size := by simpa using hb
    have hle : s1.heap.objs.size ≤ b := by
      rcases e' with z | z
      · rw [z]; exact Nat.le_add_right _ _
      · rw [z]; exact Nat.le_refl _
    exact I1.fpOk hle (I1.hok.fresh hle)
theorem walk_enumT {K : PySem.W.Frag} {a : Addr} {xs : List V} : Walk (IteT K a xs.length) xs.length (fun H => SqT K H a xs) (YPair (fun i => some (.int (i : Nat))) (fun i => xs[i]?)) := by
  refine ⟨fun i _ hi q => ⟨hi, xs, xs[i], q, by simp [hi]⟩, fun _ q => ⟨Nat.le_refl _, xs, q, rfl⟩, fun i H v H' _ q y => ?_⟩
  obtain ⟨T, x, h1, h2, h3, h4⟩ := y
  exact ⟨T, .int (i : Nat), x, h1, h2, h3, rfl, h4 xs q⟩

/-! ### a def that may be called by its name; what it lets out is told by the promise -/
structure Cal (P : Program) (w : World) (K : PySem.W.Frag) (mg : Str → Option Value) (base : Heap) (k : Nat) (x : Str) (sp : Sp) : Prop where
  ex : ∃ (f : Addr) (fd : FuncData) (ps : List Str), FnOk P w K mg base (L2.CX P w) k f fd ps sp ∧ mg x = some (.ref f) ∧ PySem.W.keepIn K (.ref f) = true ∧ Binds K fd ps []
/-- a def of the module under its name -/
structure DefF (K : PySem.W.Frag) (mg : Str → Option Value) (x : Str) (st : Stmt) (ps : List Str) (f : Addr) (fd : FuncData) : Prop where
  fn : Fun K x x st f fd
  mgf : mg x = some (.ref f)
  bi : Binds K fd ps []
section
variable {P : Program} {w : World} {K : PySem.W.Frag} {mg : Str → Option Value} {base : Heap}
/-- a def that raises nothing -/
theorem cal_of {x : Str} {st : Stmt} {f : Addr} {fd : FuncData} {N ps : List Str} {k : Nat} {sp : Sp} (F : DefF K mg x st ps f fd) (S : FnScope N ps (defScope st)) (len : ∀ vs H Q E, sp vs H Q E → vs.length = ps.length)
    (hbody : ∀ (cdv : Value) (A : Around) (outer : List Env) (s : Shared) (H : Hp) (vs : List V) (Q : VK) (E : XK), Room k (A.deeper (envOfC x (defScope st) s.heap.objs.size f cdv)) → sp vs H Q E →
      ∃ t, PSs (cxOf (L2.CX P w) P w K mg base N x (defScope st) f cdv A outer s H E).nox (defBody st) t ∧ t { nx := fun _ H' => Q .non H', rt := Q } (start N vs) H) : Cal P w K mg base (k + 1) x sp :=
  ⟨f, fd, ps, F.fn.okX S len fun cdv A outer s H vs Q E hr h => let ⟨t, h1, h2⟩ := hbody cdv A outer s H vs Q E hr h; ⟨t, h1.nox, h2⟩, F.mgf, F.fn.kp, F.bi⟩
/-- a def that may raise -/
theorem cal_ofX {x : Str} {st : Stmt} {f : Addr} {fd : FuncData} {N ps : List Str} {k : Nat} {sp : Sp} (F : DefF K mg x st ps f fd) (S : FnScope N ps (defScope st)) (len : ∀ vs H Q E, sp vs H Q E → vs.length = ps.length)
    (hbody : ∀ (cdv : Value) (A : Around) (outer : List Env) (s : Shared) (H : Hp) (vs : List V) (Q : VK) (E : XK), Room k (A.deeper (envOfC x (defScope st) s.heap.objs.size f cdv)) → sp vs H Q E →
      ∃ t, PSs (cxOf (L2.CX P w) P w K mg base N x (defScope st) f cdv A outer s H E) (defBody st) t ∧ t { nx := fun _ H' => Q .non H', rt := Q } (start N vs) H) : Cal P w K mg base (k + 1) x sp :=
  ⟨f, fd, ps, F.fn.okX S len hbody, F.mgf, F.fn.kp, F.bi⟩
theorem Cal.mono {x : Str} {j k : Nat} {sp : Sp} (c : Cal P w K mg base j x sp) (h : j ≤ k) : Cal P w K mg base k x sp :=
  let ⟨f, fd, ps, F, r⟩ := c.ex; ⟨f, fd, ps, F.mono h, r⟩
theorem Cal.imp {x : Str} {k : Nat} {sp sp' : Sp} (c : Cal P w K mg base k x sp) (h : ∀ vs H Q E, sp' vs H Q E → sp vs H Q E) : Cal P w K mg base k x sp' :=
  let ⟨f, fd, ps, F, r⟩ := c.ex; ⟨f, fd, ps, F.imp h, r⟩
end
section
variable {X : Cx} {k j : Nat} {x : Str} {sp : Sp} {p pos : Pos} {e : Expr} {es : List Expr} {t : TA}
/-- f(e, ..), nothing is let out -/
theorem pe_cc (c : Cal X.prog X.w X.K X.mg X.base k x sp) (hr : Room j X.A) (hk : k ≤ j) (hg : Gl X x) (ha : PA X (e :: es) t)
    (hdb : (x == ("__debug__" : Str)) = false := by decide) (he : starEach (e :: es) X.env = (false, eval e X.env) :: starEach es X.env := by rfl) (hpl : (backTo pos (starEach es X.env)).any (·.1) = false := by rfl) :
    PE X (.Call (.Name x p) (e :: es) [] pos) (tCall sp [] E0 t) := by
  obtain ⟨f, fd, ps, F, hm, kp, b⟩ := c.ex
  exact pe_call F (hr.mono hk) hg hm kp b .nil passL ha hdb he hpl
/-- f(e, ..) within a try: what is let out is wished for at the caller's slots -/
theorem pe_ccS {W : WX} (c : Cal X.prog X.w X.K X.mg X.base k x sp) (hr : Room j X.A) (hk : k ≤ j) (hg : Gl X x) (tk : Takes X W) (ha : PA X (e :: es) t)
    (hdb : (x == ("__debug__" : Str)) = false := by decide) (he : starEach (e :: es) X.env = (false, eval e X.env) :: starEach es X.env := by rfl) (hpl : (backTo pos (starEach es X.env)).any (·.1) = false := by rfl) :
    PE X (.Call (.Name x p) (e :: es) [] pos) (tCallS sp (WE W) t) := by
  obtain ⟨f, fd, ps, F, hm, kp, b⟩ := c.ex
  exact pe_callS F (hr.mono hk) hg hm kp b (fun σ => passAt tk σ) ha hdb he hpl
end

/-! ### how the heap may change: all that is tracked stands, but for lists at L -/
def Ch (L : List Addr) (H H' : Hp) : Prop := ∀ a o, H a = some o → H' a = some o ∨ (a ∈ L ∧ ∃ xs ys, o = .lst xs ∧ H' a = some (.lst ys))
section
variable {L M : List Addr} {H H1 H2 H' : Hp} {K : PySem.W.Frag} {a b l p : Addr} {xs ys : List V} {o : HO}
theorem Ch.refl : Ch L H H := fun _ _ h => .inl h
theorem Ch.mono (c : Ch L H H') (h : ∀ a ∈ L, a ∈ M) : Ch M H H' := fun a o e => (c a o e).imp id fun ⟨m, r⟩ => ⟨h a m, r⟩
theorem Ch.of0 (c : Ch [] H H') : Ch L H H' := c.mono fun _ m => nomatch m
theorem Ch.trans (c : Ch L H H1) (d : Ch L H1 H2) : Ch L H H2 := fun a o e => by
  rcases c a o e with h | ⟨m, xs, ys, rfl, h⟩
  · exact d a o h
  · rcases d a _ h with h2 | ⟨_, _, zs, _, h2⟩
    · exact .inr ⟨m, xs, ys, rfl, h2⟩
    · exact .inr ⟨m, xs, zs, rfl, h2⟩
/-- a list that was new may change as it will -/
theorem Ch.cut (c : Ch L H H1) (hn : H l = none) (d : Ch [l] H1 H2) : Ch L H H2 := fun a o e => by
  have ne : a ≠ l := ne_of_none e hn
  rcases c a o e with h | ⟨m, xs, ys, rfl, h⟩
  · rcases d a o h with h2 | ⟨m2, _⟩
    · exact .inl h2
    · exact absurd (List.mem_singleton.mp m2) ne
  · rcases d a _ h with h2 | ⟨m2, _⟩
    · exact .inr ⟨m, xs, ys, rfl, h2⟩
    · exact absurd (List.mem_singleton.mp m2) ne
theorem Ch.trans0 (c : Ch L H H1) (d : Ch [] H1 H2) : Ch L H H2 := c.trans d.of0
theorem Ch.new (h : H p = none) : Ch [] H (upd H p o) := fun a u e => .inl (by rw [upd_ne (ne_of_none e h)]; exact e)
theorem Ch.set (h : H l = some (.lst xs)) : Ch [l] H (upd H l (.lst ys)) := fun a u e => by
  by_cases q : a = l
  · subst q
    rw [h] at e
    cases e
    exact .inr ⟨List.mem_singleton.mpr rfl, xs, ys, rfl, upd_same⟩
  · exact .inl (by rw [upd_ne q]; exact e)
theorem Ch.free (c : Ch L H H') (h : H' p = none) : H p = none := by
  cases q : H p with
  | none => rfl
  | some u =>
    rcases c p u q with e | ⟨_, _, _, _, e⟩
    · rw [h] at e
      cases e
    · rw [h] at e
      cases e
theorem Ch.tup (c : Ch L H H') (h : H a = some (.tup xs)) : H' a = some (.tup xs) := by
  rcases c a _ h with e | ⟨_, _, _, q, _⟩
  · exact e
  · cases q
theorem Ch.frz {ob : Obj} {u : HO} (c : Ch L H H') (h : H a = some (.frz ob u)) : H' a = some (.frz ob u) := by
  rcases c a _ h with e | ⟨_, _, _, q, _⟩
  · exact e
  · cases q
theorem Ch.sqT (c : Ch L H H') (h : SqT K H a xs) : SqT K H' a xs := by
  rcases h with (h | ⟨o, h⟩) | h
  · exact .inl (.inl (c.tup h))
  · exact .inl (.inr ⟨o, c.frz h⟩)
  · exact .inr h
theorem Ch.at0 (c : Ch [] H H') (h : H a = some o) : H' a = some o := (c a o h).elim id fun ⟨m, _⟩ => nomatch m
theorem Ch.at1 (c : Ch [l] H H') (ne : a ≠ l) (h : H a = some o) : H' a = some o := (c a o h).elim id fun ⟨m, _⟩ => absurd (List.mem_singleton.mp m) ne
theorem Ch.sq0 (c : Ch [] H H') (h : SqL K H a xs) : SqL K H' a xs := by
  rcases h with (h | ⟨o, h⟩) | h
  · exact .inl (.inl (c.at0 h))
  · exact .inl (.inr ⟨o, c.frz h⟩)
  · exact .inr h
theorem Ch.same (c : Ch [] H H') : Same H H' := fun a o h => c.at0 h
end

/-! ### ints as values -/
abbrev ivs (p : List Int) : List V := p.map V.int
theorem ivs_get {p : List Int} {i : Nat} {x : Int} (h : p[i]? = some x) : (ivs p)[i]? = some (.int x) := by
  rw [List.getElem?_map, h]
  rfl
theorem ivs_get_inv {p : List Int} {i : Nat} {v : V} (h : (ivs p)[i]? = some v) : ∃ x, p[i]? = some x ∧ v = .int x := by
  rw [List.getElem?_map] at h
  cases e : p[i]? with
  | none =>
    rw [e] at h
    cases h
  | some x =>
    rw [e] at h
    exact ⟨x, rfl, (Option.some.inj h).symm⟩
theorem atI_ivs {p : List Int} {i : Nat} {k : Int} (hk : k = (i : Int)) (h : i < p.length) : atI (ivs p) k = some (.int p[i]) := by
  subst hk
  exact atI_nat (ivs_get (List.getElem?_eq_getElem h))
theorem atI_int {p : List Int} {k x : Int} {i : Nat} (hk : k = (i : Int)) (h : p[i]? = some x) : atI (ivs p) k = some (.int x) := by
  subst hk
  exact atI_nat (ivs_get h)
theorem sz_le {n : Nat} (h : n ≤ 100000) : n ≤ sizeLine := Nat.le_trans h (by decide)
theorem sz_lt {n : Nat} (h : n < 100000) : n < sizeLine := Nat.lt_of_lt_of_le h (by decide)

/-! ### readings, step by step; the ends of a block stand as a constructor -/
section
variable {σ : L2.St} {H : Hp} {Q : VK} {K : PySem.W.Frag} {ta tb te : TE} {t u : TS} {D : Ends} {a : Addr} {xs : List V} {v x y : V} {i j : Int} {n : Nat} {r : R2}
  {N B C : L2.St → Hp → Prop} {R : VK}
theorem w_seq (h : t ⟨u ⟨N, R, B, C⟩, R, B, C⟩ σ H) : tSeq t u ⟨N, R, B, C⟩ σ H := h
theorem w_asg (h : te σ H fun x H1 => N (σ.set n (some x)) H1) : tAsg te (gName n) ⟨N, R, B, C⟩ σ H := h
theorem w_asgG {g : TG} (h : te σ H fun x H1 => g x σ H1 N) : tAsg te g ⟨N, R, B, C⟩ σ H := h
theorem w_ret (h : te σ H R) : tRet te ⟨N, R, B, C⟩ σ H := h
theorem w_drop (h : te σ H fun _ H1 => N σ H1) : tDrop te ⟨N, R, B, C⟩ σ H := h
theorem w_if {c : TT} (h : c σ H fun b H1 => if b = true then t ⟨N, R, B, C⟩ σ H1 else u ⟨N, R, B, C⟩ σ H1) : tIfS c t u ⟨N, R, B, C⟩ σ H := h
theorem w_next (h : N σ H) : tNext ⟨N, R, B, C⟩ σ H := h
theorem w_break (h : B σ H) : tBreak ⟨N, R, B, C⟩ σ H := h
theorem w_continue (h : C σ H) : tCont ⟨N, R, B, C⟩ σ H := h
theorem w_par {n m : Nat} {tr : TA} (h : tr σ H fun vs H1 => ∃ v w, vs = [v, w] ∧ N ((σ.set n (some v)).set m (some w)) H1) : tPar n m tr ⟨N, R, B, C⟩ σ H := h
theorem w_two {w : V} {S : V → V → Prop} (h : S v w) : ∃ v' w', [v, w] = [v', w'] ∧ S v' w' := ⟨v, w, rfl, h⟩
theorem w_cut {M : L2.St → Hp → Prop} (h : t ⟨M, R, B, C⟩ σ H) (k : ∀ σ' H', M σ' H' → u ⟨N, R, B, C⟩ σ' H') : Evl.tCut t u ⟨N, R, B, C⟩ σ H := ⟨M, h, k⟩
theorem w_var (e : σ[n]? = some (some v)) (h : Q v H) : tVar n σ H Q := ⟨v, e, h⟩
theorem w_c (h : Q v H) : tC v σ H Q := h
theorem w_op (h : ta σ H fun x H1 => tb σ H1 fun y H2 => r x y H2 Q) : tOp r ta tb σ H Q := h
theorem w_un {f : V → Hp → VK → Prop} (h : ta σ H fun x H1 => f x H1 Q) : tUn f ta σ H Q := h
theorem w_I0 {g : Int → Int → V} (h : Q (g i j) H) : rI0 g (.int i) (.int j) H Q := ⟨i, j, rfl, rfl, h⟩
theorem w_I {C : Int → Int → Prop} {g : Int → Int → V} (c : C i j) (h : Q (g i j) H) : rI C g (.int i) (.int j) H Q := ⟨i, j, rfl, rfl, c, h⟩
theorem w_mod {g : Int → Int → V} (c : 0 < j) (h : Q (g i j) H) : rI (fun _ j => 0 < j) g (.int i) (.int j) H Q := ⟨i, j, rfl, rfl, c, h⟩
theorem w_div {g : Int → Int → V} (c : 0 < j) (d : j < 1073741824) (h : Q (g i j) H) : rI CDiv g (.int i) (.int j) H Q := ⟨i, j, rfl, rfl, ⟨c, d⟩, h⟩
theorem w_pow {g : Int → Int → V} (c : 0 ≤ j) (d : j ≤ 1000000) (e : i.natAbs < 2 ^ 64) (h : Q (g i j) H) : rI CPow g (.int i) (.int j) H Q := ⟨i, j, rfl, rfl, ⟨c, d, e⟩, h⟩
theorem w_mulr {g : Int → Int → V} (c : j.natAbs < 2 ^ 63) (h : Q (g i j) H) : rI IntMulOk g (.int i) (.int j) H Q := ⟨i, j, rfl, rfl, mul_ok_r c, h⟩
theorem w_mull {g : Int → Int → V} (c : i.natAbs < 2 ^ 63) (h : Q (g i j) H) : rI IntMulOk g (.int i) (.int j) H Q := ⟨i, j, rfl, rfl, mul_ok_l c, h⟩
theorem w_U {g : Int → V} (h : Q (g i) H) : rU g (.int i) H Q := ⟨i, rfl, h⟩
theorem w_eqI (h : Q (.bl (decide (i = j))) H) : rEq (.int i) (.int j) H Q := ⟨rfl, by
  have e : decide (V.int i = V.int j) = decide (i = j) := by
    by_cases q : i = j
    · subst q
      rw [decide_eq_true rfl, decide_eq_true rfl]
    · rw [decide_eq_false q, decide_eq_false fun z => q (V.int.inj z)]
  rw [e]
  exact h⟩
theorem w_neI (h : Q (.bl (!decide (i = j))) H) : rNe (.int i) (.int j) H Q := ⟨rfl, by
  have e : decide (V.int i = V.int j) = decide (i = j) := by
    by_cases q : i = j
    · subst q
      rw [decide_eq_true rfl, decide_eq_true rfl]
    · rw [decide_eq_false q, decide_eq_false fun z => q (V.int.inj z)]
  rw [e]
  exact h⟩
theorem w_ixT (h : SqT K H a xs) (e : atI xs i = some v) (q : Q v H) : rIxT K (.ref a) (.int i) H Q := ⟨a, xs, i, v, rfl, rfl, h, e, q⟩
theorem w_ixL (h : SqL K H a xs) (e : atI xs i = some v) (q : Q v H) : rIxL K (.ref a) (.int i) H Q := ⟨a, xs, i, v, rfl, rfl, h, e, q⟩
theorem w_ixTi {p : List Int} {z : Int} {k : Nat} (h : SqT K H a (ivs p)) (hk : i = (k : Int)) (e : p[k]? = some z) (q : Q (.int z) H) : rIxT K (.ref a) (.int i) H Q := w_ixT h (atI_int hk e) q
theorem w_ixLi {p : List Int} {z : Int} {k : Nat} (h : H a = some (.lst (ivs p))) (hk : i = (k : Int)) (e : p[k]? = some z) (q : Q (.int z) H) : rIxL K (.ref a) (.int i) H Q := w_ixL (.of h) (atI_int hk e) q
theorem w_test {R : Bool → Hp → Prop} (h : te σ H fun x H' => ∃ k, x = .bl k ∧ R k H') : tTest te σ H R := h
theorem w_B {R : Bool → Hp → Prop} (h : te σ H fun x H' => ∃ k, x = .bl k ∧ R k H') : tB te σ H R := h
theorem w_bl {R : Bool → Prop} {b : Bool} (h : R b) : ∃ k, V.bl b = .bl k ∧ R k := ⟨b, rfl, h⟩
theorem w_int {R : Int → Prop} (h : R i) : ∃ k, V.int i = .int k ∧ R k := ⟨i, rfl, h⟩
theorem w_N {R : L2.St → Hp → Prop} {S : (L2.St → Hp → Prop) → Prop} (h : S R) : ∃ N : L2.St → Hp → Prop, (∀ σ' H', N σ' H' → R σ' H') ∧ S N := ⟨R, fun _ _ h => h, h⟩
theorem w_start {N : List Str} {vs : List V} (e : L2.start N vs = σ) (h : t D σ H) : t D (L2.start N vs) H := e ▸ h
theorem w_and {c d : TT} {R : Bool → Hp → Prop} (h : c σ H fun b H1 => if b = true then d σ H1 R else R false H1) : tAnd c d σ H R := h
theorem w_or {c d : TT} {R : Bool → Hp → Prop} (h : c σ H fun b H1 => if b = true then R true H1 else d σ H1 R) : tOr c d σ H R := h
theorem w_not {c : TT} {R : Bool → Hp → Prop} (h : c σ H fun b H1 => R (!b) H1) : tNot c σ H R := h
theorem w_andV (h : ta σ H fun x H1 => ∃ c, x = .bl c ∧ if c = true then tb σ H1 Q else Q (.bl false) H1) : tAndV ta tb σ H Q := h
theorem w_orV (h : ta σ H fun x H1 => ∃ c, x = .bl c ∧ if c = true then Q (.bl true) H1 else tb σ H1 Q) : tOrV ta tb σ H Q := h
theorem w_notV (h : ta σ H fun x H1 => ∃ c, x = .bl c ∧ Q (.bl (!c)) H1) : tNotV ta σ H Q := h
theorem w_ifE {c : TT} (h : c σ H fun b H1 => if b = true then ta σ H1 Q else tb σ H1 Q) : tIf c ta tb σ H Q := h
theorem w_nil {R : List V → Hp → Prop} (h : R [] H) : tNil σ H R := h
theorem w_cons {tr : TA} {R : List V → Hp → Prop} (h : ta σ H fun x H1 => tr σ H1 fun xs H2 => R (x :: xs) H2) : tCons ta tr σ H R := h
theorem w_cb {f : List V → Hp → VK → Prop} {tr : TA} (h : tr σ H fun vs H1 => f vs H1 Q) : tCB f tr σ H Q := h
theorem w_call {sp : Sp} {dvs : List V} {E : XK} {tr : TA} (h : tr σ H fun vs H1 => sp (vs ++ dvs) H1 Q E) : tCall sp dvs E tr σ H Q := h
/-- a new object, and the heap behind it as a letter -/
theorem w_new {o : HO} {R : Addr → Hp → Prop} (h : ∀ p H', H p = none → Ch [] H H' → H' p = some o → R p H') : ∀ p, H p = none → R p (upd H p o) := fun p hp => h p _ hp (Ch.new hp) upd_same
/-- the tuple, the list of these items, new -/
def NewT (xs : List V) (H : Hp) (Q : VK) : Prop := xs.length ≤ sizeLine ∧ ∀ p, H p = none → Q (.ref p) (upd H p (.tup xs))
def NewL (xs : List V) (H : Hp) (Q : VK) : Prop := xs.length ≤ sizeLine ∧ ∀ p, H p = none → Q (.ref p) (upd H p (.lst xs))
theorem w_tup {tr : TA} (h : tr σ H fun xs H1 => NewT xs H1 Q) : tTup tr σ H Q := h
theorem w_lst {tr : TA} (h : tr σ H fun xs H1 => NewL xs H1 Q) : tLst tr σ H Q := h
theorem w_newT (hl : xs.length ≤ sizeLine) (q : ∀ p H', H p = none → Ch [] H H' → H' p = some (.tup xs) → Q (.ref p) H') : NewT xs H Q := ⟨hl, w_new q⟩
theorem w_newL (hl : xs.length ≤ sizeLine) (q : ∀ p H', H p = none → Ch [] H H' → H' p = some (.lst xs) → Q (.ref p) H') : NewL xs H Q := ⟨hl, w_new q⟩
theorem ite_b {A B : Prop} {b : Bool} (h1 : b = true → A) (h2 : b = false → B) : if b = true then A else B := by
  cases b with
  | true =>
    rw [if_pos rfl]
    exact h1 rfl
  | false =>
    rw [if_neg Bool.false_ne_true]
    exact h2 rfl
theorem ite_d {A B P : Prop} [Decidable P] (h1 : P → A) (h2 : ¬ P → B) : if decide P = true then A else B := ite_b (fun e => h1 (of_decide_eq_true e)) fun e => h2 (of_decide_eq_false e)
theorem ite_nd {A B P : Prop} [Decidable P] (h1 : ¬ P → A) (h2 : P → B) : if (!decide P) = true then A else B := ite_b (fun e => h1 (by simpa using e)) fun e => h2 (by simpa using e)
theorem ite_t {A B : Prop} (h : A) : if true = true then A else B := by rw [if_pos rfl]; exact h
theorem ite_f {A B : Prop} (h : B) : if false = true then A else B := by rw [if_neg Bool.false_ne_true]; exact h
theorem ite_dt {A B P : Prop} [Decidable P] (p : P) (h : A) : if decide P = true then A else B := by rw [if_pos (decide_eq_true p)]; exact h
theorem ite_df {A B P : Prop} [Decidable P] (p : ¬ P) (h : B) : if decide P = true then A else B := by rw [if_neg (fun e => p (of_decide_eq_true e))]; exact h
end

/-! ### built-ins, by values, under names -/
def rLen (K : PySem.W.Frag) : List V → Hp → VK → Prop := fun xs H Q => ∃ p ys, xs = [.ref p] ∧ (SqL K H p ys ∨ SqT K H p ys) ∧ Q (.int ys.length) H
def rListOf (K : PySem.W.Frag) : List V → Hp → VK → Prop := fun xs H Q => ∃ p ys, xs = [.ref p] ∧ (SqL K H p ys ∨ SqT K H p ys) ∧ ∀ l, H l = none → Q (.ref l) (upd H l (.lst ys))
def rTupleOf (K : PySem.W.Frag) : List V → Hp → VK → Prop := fun xs H Q => ∃ p ys, xs = [.ref p] ∧ ((SqL K H p ys ∧ ∀ l, H l = none → Q (.ref l) (upd H l (.tup ys))) ∨ (SqT K H p ys ∧ Q (.ref p) H))
def rAbs : List V → Hp → VK → Prop := fun xs H Q => ∃ i, xs = [.int i] ∧ Q (.int (if i < 0 then -i else i)) H
def rMax2 : List V → Hp → VK → Prop := fun xs H Q => ∃ i j, xs = [.int i, .int j] ∧ Q (.int (if j > i then j else i)) H
def rMin2 : List V → Hp → VK → Prop := fun xs H Q => ∃ i j, xs = [.int i, .int j] ∧ Q (.int (if j < i then j else i)) H
def rInt1 : List V → Hp → VK → Prop := fun xs H Q => (∃ i, xs = [.int i] ∧ Q (.int i) H) ∨ ∃ k, xs = [.bl k] ∧ Q (.int (if k then 1 else 0)) H
section
variable {X : Cx}
theorem cb_len : CallR X (.builtin "len") (rLen X.K) := call_len_seq
theorem cb_list : CallR X (.type "list") (rListOf X.K) := call_list_of
theorem cb_tuple : CallR X (.type "tuple") (rTupleOf X.K) := call_tuple_of
theorem cb_abs : CallR X (.builtin "abs") rAbs := call_abs
theorem cb_max2 (hc : X.calm = true) : CallR X (.builtin "max") rMax2 := call_max2 hc
theorem cb_min2 (hc : X.calm = true) : CallR X (.builtin "min") rMin2 := call_min2 hc
theorem cb_int : CallR X (.type "int") rInt1 := call_int1
end
section
variable {X : Cx} {K : PySem.W.Frag} {tg : Expr}
theorem k_len (h : X.K = K) : CallR X (.builtin "len") (rLen K) := h ▸ cb_len
theorem k_list (h : X.K = K) : CallR X (.type "list") (rListOf K) := h ▸ cb_list
theorem k_tuple (h : X.K = K) : CallR X (.type "tuple") (rTupleOf K) := h ▸ cb_tuple
theorem k_all (h : X.K = K) (hc : X.calm = true) : CallR X (.builtin "all") (rAll K) := h ▸ cr_all hc
theorem k_any (h : X.K = K) (hc : X.calm = true) : CallR X (.builtin "any") (rAny K) := h ▸ cr_any hc
theorem k_sum (h : X.K = K) (hc : X.calm = true) : CallR X (.builtin "sum") (rSum K) := h ▸ cr_sum hc
theorem k_isi (h : X.K = K) : CallR X (.builtin "isinstance") (rIsi K) := h ▸ call_isi
theorem k_ixL (h : X.K = K) : IxR X (rIxL K) := h ▸ ix_list
theorem k_ixT (h : X.K = K) : IxR X (rIxT K) := h ▸ ix_tup
theorem k_slL (h : X.K = K) : SlR X (rSlL K) := h ▸ sl_list
theorem k_slT (h : X.K = K) : SlR X (rSlA K) := h ▸ sl_tupA
theorem k_catT (h : X.K = K) : OpR X (binaryOp .Add) (rCatA K) := h ▸ op_catA
theorem k_eqD (h : X.K = K) (hu : X.A.units + 64 < cLine) : OpR X (compareOp .Eq) (rEqD K) := h ▸ op_eqD hu
theorem k_neD (h : X.K = K) (hu : X.A.units + 64 < cLine) : OpR X (compareOp .NotEq) (rNeD K) := h ▸ op_neD hu
theorem k_inS (h : X.K = K) : OpR X (compareOp .In) (rIn K false) := h ▸ op_in_seq
theorem k_niS (h : X.K = K) : OpR X (compareOp .NotIn) (rIn K true) := h ▸ op_notIn_seq
theorem k_piL {l : Expr} {tl : TE} (h : X.K = K) (hl : PE X l tl) : PI X tg l (iList K tl) := h ▸ pi_list hl
theorem k_piT {l : Expr} {tl : TE} (h : X.K = K) (hl : PE X l tl) : PI X tg l (iTup K tl) := h ▸ pi_tup hl
theorem k_piE {e : Expr} {ta : TA} {p pos tpos : Pos} {elts : List Expr} {kk : Nat} (h : X.K = K) (hg : Gl X "enumerate") (hm : X.mg "enumerate" = none) (ha : PA X [e] ta) (hs : starEach [e] X.env = [(false, eval e X.env)] := by rfl) :
    PI X (.Tuple elts kk tpos) (.Call (.Name "enumerate" p) [e] [] pos) (iEnumT K ta) := h ▸ pi_enumT hg hm ha hs
theorem k_piV {e : Expr} {te : TE} {p pos : Pos} (h : X.K = K) (hg : Gl X "reversed") (hm : X.mg "reversed" = none) (he : PE X e te) (hs : starEach [e] X.env = (false, eval e X.env) :: starEach [] X.env := by rfl) : PI X tg (.Call (.Name "reversed" p) [e] [] pos) (RT.iRevA K te) := h ▸ RT.pi_revA hg hm he hs
theorem k_gtup {es : List Expr} {k : Nat} {t : TGs} {n : Nat} {pos : Pos} (h : X.K = K) (hc : X.calm = true) (hp : PGs X es t)
    (hn : (assignEach es X.env).length = n := by rfl) (hst : (assignEach es X.env).findIdx? (·.1) = none := by rfl) : PG X (.Tuple es k pos) (gTup K n t) := h ▸ pg_tup hc hp hn hst
end
section
variable {σ : L2.St} {H : Hp} {Q : VK} {K : PySem.W.Frag} {a p : Addr} {xs : List V} {v : V} {i j : Int} {k n : Nat} {lo hi : Option Int}
theorem w_lenL (h : SqL K H a xs) (q : Q (.int xs.length) H) : rLen K [.ref a] H Q := ⟨a, xs, rfl, .inl h, q⟩
theorem w_lenT (h : SqT K H a xs) (q : Q (.int xs.length) H) : rLen K [.ref a] H Q := ⟨a, xs, rfl, .inr h, q⟩
theorem w_lenLi {p : List Int} (h : H a = some (.lst (ivs p))) (q : Q (.int p.length) H) : rLen K [.ref a] H Q := w_lenL (.of h) (by rw [List.length_map]; exact q)
theorem w_lenTi {p : List Int} (h : SqT K H a (ivs p)) (q : Q (.int p.length) H) : rLen K [.ref a] H Q := w_lenT h (by rw [List.length_map]; exact q)
theorem w_listL (h : SqL K H a xs) (q : ∀ p H', H p = none → Ch [] H H' → H' p = some (.lst xs) → Q (.ref p) H') : rListOf K [.ref a] H Q := ⟨a, xs, rfl, .inl h, w_new q⟩
theorem w_listT (h : SqT K H a xs) (q : ∀ p H', H p = none → Ch [] H H' → H' p = some (.lst xs) → Q (.ref p) H') : rListOf K [.ref a] H Q := ⟨a, xs, rfl, .inr h, w_new q⟩
theorem w_tupleL (h : SqL K H a xs) (q : ∀ p H', H p = none → Ch [] H H' → H' p = some (.tup xs) → Q (.ref p) H') : rTupleOf K [.ref a] H Q := ⟨a, xs, rfl, .inl ⟨h, w_new q⟩⟩
theorem w_tupleT (h : SqT K H a xs) (q : Q (.ref a) H) : rTupleOf K [.ref a] H Q := ⟨a, xs, rfl, .inr ⟨h, q⟩⟩
theorem w_abs (q : Q (.int i.natAbs) H) : rAbs [.int i] H Q := ⟨i, rfl, by
  have e : (if i < 0 then -i else i) = (i.natAbs : Int) := by split <;> omega
  rw [e]
  exact q⟩
theorem w_max2 (q : Q (.int (if j > i then j else i)) H) : rMax2 [.int i, .int j] H Q := ⟨i, j, rfl, q⟩
theorem w_min2 (q : Q (.int (if j < i then j else i)) H) : rMin2 [.int i, .int j] H Q := ⟨i, j, rfl, q⟩
theorem w_int1 (q : Q (.int i) H) : rInt1 [.int i] H Q := .inl ⟨i, rfl, q⟩
theorem w_int1b {b : Bool} (q : Q (.int (if b then 1 else 0)) H) : rInt1 [.bl b] H Q := .inr ⟨b, rfl, q⟩
theorem w_gcd (q : Q (.int (Nat.gcd i.natAbs j.natAbs : Nat)) H) : rGcd [.int i, .int j] H Q := ⟨i, j, rfl, q⟩
/-! slices -/
theorem w_sl {r : V → Option Int → Option Int → Hp → VK → Prop} {te : TE} {tl th : TO} (h : te σ H fun x H1 => tl σ H1 fun l H2 => th σ H2 fun u H3 => r x l u H3 Q) : tSl r te tl th σ H Q := h
theorem w_nopart {R : Option Int → Hp → Prop} (h : R none H) : tNoPart σ H R := h
theorem w_part {t : TE} {R : Option Int → Hp → Prop} (h : t σ H fun x H1 => ∃ i, x = .int i ∧ R (some i) H1) : tPart t σ H R := h
theorem w_slL (h : SqL K H a xs) (q : ∀ p H', H p = none → Ch [] H H' → H' p = some (.lst (cutV xs lo hi)) → Q (.ref p) H') : rSlL K (.ref a) lo hi H Q := ⟨a, xs, rfl, h, w_new q⟩
theorem cutV_whole {xs : List V} {lo hi : Option Int} (h : HT.sIx xs.length 0 lo = 0 ∧ HT.sIx xs.length xs.length hi = xs.length) : cutV xs lo hi = xs := by
  unfold cutV
  rw [h.1, h.2, List.drop_zero, Nat.sub_zero, List.take_length]
theorem w_slT (h : SqT K H a xs) (q : ∀ p H', Ch [] H H' → SqT K H' p (cutV xs lo hi) → Q (.ref p) H') : rSlA K (.ref a) lo hi H Q :=
  ⟨a, xs, rfl, h, fun hw => q a H .refl (by rw [cutV_whole hw]; exact h), fun _ p hp => q p _ (Ch.new hp) (.of upd_same)⟩
/-! targets -/
variable {N : L2.St → Hp → Prop}
theorem w_gname (h : N (σ.set n (some v)) H) : gName n v σ H N := h
theorem w_gsub {to ti : TE} {t : TSet} (h : to σ H fun o H1 => ti σ H1 fun i H2 => t o i v H2 fun H3 => N σ H3) : gSub to ti t v σ H N := h
theorem w_setL {R : Hp → Prop} (h : H a = some (.lst xs)) (hk : i = (k : Int)) (hj : k < xs.length) (q : ∀ H', Ch [a] H H' → H' a = some (.lst (xs.set k v)) → R H') : rSetL (.ref a) (.int i) v H R := by
  subst hk
  refine ⟨a, xs, k, k, rfl, rfl, h, ?_, q _ (Ch.set h) upd_same⟩
  unfold ixN
  rw [if_pos (by omega), if_pos (by omega)]
  rfl
theorem w_gtup {t : TGs} (h : SqT K H a xs) (hl : xs.length = n) (q : t xs σ H N) : gTup K n t (.ref a) σ H N := ⟨a, xs, rfl, h, hl, q⟩
theorem w_gcons {g : TG} {t : TGs} (h : g v σ H fun σ' H' => t xs σ' H' N) : gCons g t (v :: xs) σ H N := ⟨v, xs, rfl, h⟩
theorem w_gnil (h : N σ H) : gNil [] σ H N := ⟨rfl, h⟩
/-! list.append -/
theorem w_bm {T : String} {r : V → List V → Hp → VK → Prop} {to : TE} {t : TA} (h : to σ H fun x H1 => tyV K T x H1 ∧ t σ H1 fun xs H2 => r x xs H2 Q) : tBM K T r to t σ H Q := h
theorem w_append (h : H a = some (.lst xs)) (hl : xs.length < sizeLine) (q : ∀ H', Ch [a] H H' → H' a = some (.lst (xs ++ [v])) → Q .non H') : rAppend (.ref a) [v] H Q := ⟨a, xs, v, rfl, rfl, h, hl, q _ (Ch.set h) upd_same⟩
theorem w_cat {b : Addr} {ys : List V} (h : H a = some (.lst xs)) (h2 : H b = some (.lst ys)) (hl : xs.length + ys.length ≤ sizeLine) (q : ∀ p H', H p = none → Ch [] H H' → H' p = some (.lst (xs ++ ys)) → Q (.ref p) H') : rCat (.ref a) (.ref b) H Q :=
  ⟨a, b, xs, ys, rfl, rfl, h, h2, hl, w_new q⟩
end

/-! ### loops and comprehensions -/
def ForG (J : It) (g : TG) (tb : TS) (N : L2.St → Hp → Prop) (R : VK) (σ : L2.St) (H : Hp) : Prop := ∃ W : Nat → Nat → L2.St → Hp → Prop, (∃ m, W 0 m σ H) ∧ ∀ i m σ H, W i m σ H →
  (J.stop i H ∧ N σ H) ∨ (J.go i H ∧ ∃ M : L2.St → Hp → Prop, (∀ σ' H', M σ' H' → ∃ m', m' < m ∧ W (i + 1) m' σ' H') ∧ ∀ x H', J.yld i H x H' → g x σ H' fun σ2 H2 => tb ⟨M, R, N, M⟩ σ2 H2)
def LcG (J : It) (g : TG) (tt : TT) (te : TE) (vs : List Nat) (σ : L2.St) (H1 : Hp) (Q : VK) : Prop := ∀ D, H1 D = none → ∃ W : Nat → Nat → Hp → Prop, (∃ m, W 0 m (upd H1 D (.lst []))) ∧ ∀ i m H, W i m H →
  (J.stop i H ∧ Q (.ref D) H) ∨ (J.go i H ∧ ∃ Nx : Hp → Prop, (∀ H', Nx H' → ∃ m', m' < m ∧ W (i + 1) m' H') ∧ ∀ x H', J.yld i H x H' → g x (wipe σ vs) H' fun σ2 H2 => wipe σ2 vs = wipe σ vs ∧ tt σ2 H2 fun b H3 =>
    if b = true then te σ2 H3 fun y H4 => ∃ acc, H4 D = some (.lst acc) ∧ acc.length < sizeLine ∧ Nx (upd H4 D (.lst (acc ++ [y]))) else Nx H3)
section
variable {σ : L2.St} {H : Hp} {Q : VK} {K : PySem.W.Frag} {a p : Addr} {xs : List V} {v : V} {i j lo : Int} {n : Nat} {N B C : L2.St → Hp → Prop} {R : VK} {g : TG} {tb : TS} {wi : TI} {tt : TT} {te : TE} {vs : List Nat} {J : It}
theorem w_for (h : wi σ H fun J H1 => ForG J g tb N R σ H1) : tFor wi g tb ⟨N, R, B, C⟩ σ H := h
theorem w_lc (h : wi σ H fun J H1 => LcG J g tt te vs σ H1 Q) : tLc wi g tt te vs σ H Q := h
theorem w_while {c : TT} (W : Nat → L2.St → Hp → Prop) (m : Nat) (w0 : W m σ H) (turn : ∀ m σ H, W m σ H → c σ H fun b' H1 => if b' = true then ∃ M : L2.St → Hp → Prop, (∀ σ' H', M σ' H' → ∃ m', m' < m ∧ W m' σ' H') ∧ tb ⟨M, R, N, M⟩ σ H1 else N σ H1) : tWhile c tb ⟨N, R, B, C⟩ σ H :=
  ⟨W, ⟨m, w0⟩, turn⟩
theorem w_iL {tl : TE} {S : It → Hp → Prop} (h : tl σ H fun x H1 => ∃ a, x = .ref a ∧ (∃ xs, SqL K H1 a xs) ∧ S (Itl K a) H1) : iList K tl σ H S := h
theorem w_iT {tl : TE} {S : It → Hp → Prop} (h : tl σ H fun x H1 => ∃ a, x = .ref a ∧ (∃ xs, SqT K H1 a xs) ∧ S (Itt K a) H1) : iTup K tl σ H S := h
theorem w_iLr {S : Addr → Prop} (h : SqL K H a xs) (q : S a) : ∃ a', V.ref a = .ref a' ∧ (∃ xs, SqL K H a' xs) ∧ S a' := ⟨a, rfl, ⟨xs, h⟩, q⟩
theorem w_iTr {S : Addr → Prop} (h : SqT K H a xs) (q : S a) : ∃ a', V.ref a = .ref a' ∧ (∃ xs, SqT K H a' xs) ∧ S a' := ⟨a, rfl, ⟨xs, h⟩, q⟩
theorem w_iR1 {tr : TA} {S : It → Hp → Prop} (h : tr σ H fun vs H1 => ∃ j : Int, vs = [.int j] ∧ -(2 ^ 62) ≤ j ∧ j < 2 ^ 62 ∧ S (Itr 0 j.toNat) H1) : iRng1 tr σ H S := h
theorem w_iR1r {S : Int → Prop} (h1 : -(2 ^ 62) ≤ j) (h2 : j < 2 ^ 62) (q : S j) : ∃ j' : Int, [V.int j] = [.int j'] ∧ -(2 ^ 62) ≤ j' ∧ j' < 2 ^ 62 ∧ S j' := ⟨j, rfl, h1, h2, q⟩
theorem w_iR2 {tr : TA} {S : It → Hp → Prop} (h : tr σ H fun vs H1 => ∃ i j : Int, vs = [.int i, .int j] ∧ (-(2 ^ 62) ≤ i ∧ i < 2 ^ 62 ∧ -(2 ^ 62) ≤ j ∧ j < 2 ^ 62) ∧ S (Itr i (j - i).toNat) H1) : iRng2 tr σ H S := h
theorem w_iR2r {S : Int → Int → Prop} (h : -(2 ^ 62) ≤ i ∧ i < 2 ^ 62 ∧ -(2 ^ 62) ≤ j ∧ j < 2 ^ 62) (q : S i j) : ∃ i' j' : Int, [V.int i, V.int j] = [.int i', .int j'] ∧ (-(2 ^ 62) ≤ i' ∧ i' < 2 ^ 62 ∧ -(2 ^ 62) ≤ j' ∧ j' < 2 ^ 62) ∧ S i' j' := ⟨i, j, rfl, h, q⟩
theorem w_iE {tr : TA} {S : It → Hp → Prop} (h : tr σ H fun vs H1 => ∃ a xs, vs = [.ref a] ∧ SqT K H1 a xs ∧ S (IteT K a xs.length) H1) : iEnumT K tr σ H S := h
theorem w_iEr {S : Addr → List V → Prop} (h : SqT K H a xs) (q : S a xs) : ∃ a' xs', [V.ref a] = [.ref a'] ∧ SqT K H a' xs' ∧ S a' xs' := ⟨a, xs, rfl, h, q⟩
theorem w_iV {S : It → Hp → Prop} {tl : TE} (h : tl σ H fun v H1 => ∃ (a : Addr) (xs : List V), v = .ref a ∧ ((SqL K H1 a xs ∧ S (Itv K a xs.length) H1) ∨ (SqT K H1 a xs ∧ S (RT.ItvT K a xs.length) H1))) : RT.iRevA K tl σ H S := h
theorem w_iVr {S1 S2 : Addr → List V → Prop} (h : SqT K H a xs) (q : S2 a xs) : ∃ (a' : Addr) (xs' : List V), V.ref a = .ref a' ∧ ((SqL K H a' xs' ∧ S1 a' xs') ∨ (SqT K H a' xs' ∧ S2 a' xs')) := ⟨a, xs, rfl, .inr ⟨h, q⟩⟩
/-- a for, by what it walks -/
theorem for_w {G : Hp → Prop} {Y : Nat → Hp → V → Hp → Prop} (w : Walk J n G Y) (Pv : Nat → L2.St → Hp → Prop) (h0 : Pv 0 σ H) (hG : ∀ i σ H, i ≤ n → Pv i σ H → G H)
    (hs : ∀ i x σ H H', i < n → Pv i σ H → Y i H x H' → g x σ H' fun σ2 H2 => tb ⟨Pv (i + 1), R, N, Pv (i + 1)⟩ σ2 H2) (hd : ∀ σ H, Pv n σ H → N σ H) : ForG J g tb N R σ H :=
  for_it (D := ⟨N, R, fun _ _ => False, fun _ _ => False⟩) w Pv h0 hG hs hd
theorem for_R (Pv : Nat → L2.St → Hp → Prop) (h0 : Pv 0 σ H) (hs : ∀ i σ H, i < n → Pv i σ H → g (.int (lo + (i : Int))) σ H fun σ2 H2 => tb ⟨Pv (i + 1), R, N, Pv (i + 1)⟩ σ2 H2) (hd : ∀ σ H, Pv n σ H → N σ H) : ForG (Itr lo n) g tb N R σ H :=
  for_range (D := ⟨N, R, fun _ _ => False, fun _ _ => False⟩) Pv h0 hs hd
theorem for_T {xs : List V} (Pv : Nat → L2.St → Hp → Prop) (h0 : Pv 0 σ H) (hl : ∀ i σ H, i ≤ xs.length → Pv i σ H → SqT K H a xs)
    (hs : ∀ i x σ H, xs[i]? = some x → Pv i σ H → g x σ H fun σ2 H2 => tb ⟨Pv (i + 1), R, N, Pv (i + 1)⟩ σ2 H2) (hd : ∀ σ H, Pv xs.length σ H → N σ H) : ForG (Itt K a) g tb N R σ H :=
  for_tup (D := ⟨N, R, fun _ _ => False, fun _ _ => False⟩) Pv h0 hl hs hd
/-- over a tuple of ints -/
theorem for_Ti {ns : List Int} (Pv : Nat → L2.St → Hp → Prop) (h0 : Pv 0 σ H) (hl : ∀ i σ H, i ≤ ns.length → Pv i σ H → SqT K H a (ivs ns))
    (hs : ∀ i x σ H, ns[i]? = some x → Pv i σ H → g (.int x) σ H fun σ2 H2 => tb ⟨Pv (i + 1), R, N, Pv (i + 1)⟩ σ2 H2) (hd : ∀ σ H, Pv ns.length σ H → N σ H) : ForG (Itt K a) g tb N R σ H :=
  for_T (xs := ivs ns) Pv h0 (fun i σ H hi => hl i σ H (by rw [List.length_map] at hi; exact hi)) (fun i x σ H hx hp => by
    obtain ⟨z, hz, rfl⟩ := ivs_get_inv hx
    exact hs i z σ H hz hp) (fun σ H hp => hd σ H (by rw [List.length_map] at hp; exact hp))
/-- for i, x in enumerate(tuple of ints): each turn lays a new pair -/
theorem for_Ei {ns : List Int} (Pv : Nat → L2.St → Hp → Prop) (h0 : Pv 0 σ H) (hl : ∀ i σ H, i ≤ ns.length → Pv i σ H → SqT K H a (ivs ns))
    (hs : ∀ i x σ H T H', ns[i]? = some x → Pv i σ H → H T = none → Ch [] H H' → H' T = some (.tup [.int (i : Nat), .int x]) → g (.ref T) σ H' fun σ2 H2 => tb ⟨Pv (i + 1), R, N, Pv (i + 1)⟩ σ2 H2) (hd : ∀ σ H, Pv ns.length σ H → N σ H) : ForG (IteT K a (ivs ns).length) g tb N R σ H :=
  for_it (D := ⟨N, R, fun _ _ => False, fun _ _ => False⟩) (walk_enumT (xs := ivs ns)) Pv h0 (fun i σ H hi => hl i σ H (by rw [List.length_map] at hi; exact hi)) (fun i x σ H H' hi hp hy => by
    obtain ⟨T, x1, x2, rfl, nT, rfl, e1, e2⟩ := hy
    obtain ⟨z, hz, rfl⟩ := ivs_get_inv e2
    cases e1
    exact hs i z σ H T _ hz hp nT (Ch.new nT) upd_same) (fun σ H hp => hd σ H (by rw [List.length_map] at hp; exact hp))
/-- for x in reversed(tuple of ints) -/
theorem for_Vi {ns : List Int} (Pv : Nat → L2.St → Hp → Prop) (h0 : Pv 0 σ H) (hl : ∀ i σ H, Pv i σ H → SqT K H a (ivs ns))
    (hs : ∀ i x σ H, i < ns.length → ns[ns.length - 1 - i]? = some x → Pv i σ H → g (.int x) σ H fun σ2 H2 => tb ⟨Pv (i + 1), R, N, Pv (i + 1)⟩ σ2 H2) (hd : ∀ σ H, Pv ns.length σ H → N σ H) : ForG (RT.ItvT K a (ivs ns).length) g tb N R σ H :=
  RT.for_ItvT (D := ⟨N, R, fun _ _ => False, fun _ _ => False⟩) (xs := ivs ns) Pv h0 hl (fun i x σ H hi hx hp => by
    rw [List.length_map] at hi hx
    obtain ⟨z, hz, rfl⟩ := ivs_get_inv hx
    exact hs i z σ H hi hz hp) (fun σ H hp => hd σ H (by rw [List.length_map] at hp; exact hp))

theorem wipe1 {σ : L2.St} {i : Nat} {o : Option V} : wipe ((wipe σ [i]).set i o) [i] = wipe σ [i] := by
  show ((σ.set i none).set i o).set i none = σ.set i none
  rw [List.set_set, List.set_set]
/-- [e for x in ..], no test: what each turn gives -/
theorem lc_w {G : Hp → Prop} {Y : Nat → Hp → V → Hp → Prop} {i : Nat} (w : Walk J n G Y) (f : Nat → V) (hv : vs = [i]) (hG : ∀ H', Ch [] H H' → G H') (hn : n < 100000)
    (hs : ∀ k x H1 H2, k < n → Ch [] H H1 → Y k H1 x H2 → ∀ S : VK, (∀ H3, Ch [] H1 H3 → S (f k) H3) → te ((wipe σ [i]).set i (some x)) H2 S)
    (hd : ∀ D H', H D = none → Ch [] H H' → H' D = some (.lst ((List.range n).map f)) → Q (.ref D) H') : LcG J (gName i) tYes te vs σ H Q := by
  subst hv
  intro D hD
  refine lc_it w (fun k H' => Ch [] H H' ∧ H' D = some (.lst ((List.range k).map f))) ⟨Ch.new hD, by rw [upd_same]; rfl⟩ (fun k H' hk hp => hG H' hp.1) ?_ (fun H' hp => hd D H' hD hp.1 hp.2)
  rintro k x H1 H2 hk ⟨c1, e1⟩ hy
  refine ⟨wipe1, ?_⟩
  show te _ _ _
  refine hs k x H1 H2 hk c1 hy _ fun H3 c3 => ?_
  refine ⟨_, c3.at0 e1, sz_lt (by rw [List.length_map, List.length_range]; omega), ?_, ?_⟩
  · exact Ch.cut (c1.trans c3) hD (Ch.set (c3.at0 e1))
  · rw [upd_same, List.range_succ, List.map_append]
    rfl
theorem lc_R {i : Nat} (f : Nat → V) (hv : vs = [i]) (hn : n < 100000)
    (hs : ∀ k H1, k < n → Ch [] H H1 → ∀ S : VK, (∀ H3, Ch [] H1 H3 → S (f k) H3) → te ((wipe σ [i]).set i (some (.int (lo + (k : Int))))) H1 S)
    (hd : ∀ D H', H D = none → Ch [] H H' → H' D = some (.lst ((List.range n).map f)) → Q (.ref D) H') : LcG (Itr lo n) (gName i) tYes te vs σ H Q :=
  lc_w (walk_range (lo := lo) (n := n)) f hv (fun _ _ => trivial) hn (fun k x H1 H2 hk c y S q => by
    obtain ⟨e1, e2⟩ := y
    rw [e1, e2]
    exact hs k H1 hk c S q) hd
theorem range_map {ns : List Int} {g : Int → V} : (List.range ns.length).map (fun k => g (ns.getD k 0)) = ns.map g := by
  apply List.ext_getElem?
  intro k
  rw [List.getElem?_map, List.getElem?_map]
  by_cases h : k < ns.length
  · rw [List.getElem?_range h, List.getElem?_eq_getElem h]
    simp [List.getD, h]
  · rw [List.getElem?_eq_none (by rw [List.length_range]; omega), List.getElem?_eq_none (by omega)]
    rfl
/-- [e for x in a tuple of ints] -/
theorem lc_Ti {i : Nat} {ns : List Int} (f : Int → V) (hv : vs = [i]) (ht : SqT K H a (ivs ns)) (hn : ns.length < 100000)
    (hs : ∀ x H1, x ∈ ns → Ch [] H H1 → ∀ S : VK, (∀ H3, Ch [] H1 H3 → S (f x) H3) → te ((wipe σ [i]).set i (some (.int x))) H1 S)
    (hd : ∀ D H', H D = none → Ch [] H H' → H' D = some (.lst (ns.map f)) → Q (.ref D) H') : LcG (Itt K a) (gName i) tYes te vs σ H Q := by
  have w : Walk (Itt K a) ns.length (fun H => SqT K H a (ivs ns)) (YAt (ivs ns)) := by
    have q := walk_tup (K := K) (a := a) (xs := ivs ns)
    rw [List.length_map] at q
    exact q
  refine lc_w w (fun k => f (ns.getD k 0)) hv (fun _ c => c.sqT ht) hn (fun k x H1 H2 hk c y S q => ?_) (fun D H' h1 h2 h3 => hd D H' h1 h2 (by rw [h3, range_map]))
  obtain ⟨rfl, hx⟩ := y
  obtain ⟨z, hz, rfl⟩ := ivs_get_inv hx
  refine hs z _ (List.mem_of_getElem? hz) c S fun H3 c3 => ?_
  have e : ns.getD k 0 = z := by
    simp [List.getD, hz]
  have := q H3 c3
  simp only [e] at this
  exact this
end

section
variable {σ : L2.St} {H : Hp} {i j lo c : Int} {n : Nat} {N : L2.St → Hp → Prop} {R : VK} {g : TG} {tb : TS}
theorem w_iR3 {tr : TA} {S : It → Hp → Prop} (h : tr σ H fun vs H1 => ∃ (i j c : Int) (n : Nat), vs = [.int i, .int j, .int c] ∧ RgC i j c n ∧ S (Itc i c n) H1) : iRng3 tr σ H S := h
theorem w_iR3r {S : Int → Int → Nat → Prop} (h : RgC i j c n) (q : S i c n) : ∃ (i' j' c' : Int) (n' : Nat), [V.int i, V.int j, V.int c] = [.int i', .int j', .int c'] ∧ RgC i' j' c' n' ∧ S i' c' n' := ⟨i, j, c, n, rfl, h, q⟩
theorem for_C (Pv : Nat → L2.St → Hp → Prop) (h0 : Pv 0 σ H) (hs : ∀ i σ H, i < n → Pv i σ H → g (.int (lo + (i : Nat) * c)) σ H fun σ2 H2 => tb ⟨Pv (i + 1), R, N, Pv (i + 1)⟩ σ2 H2) (hd : ∀ σ H, Pv n σ H → N σ H) : ForG (Itc lo c n) g tb N R σ H :=
  for_rangeC (D := ⟨N, R, fun _ _ => False, fun _ _ => False⟩) Pv h0 hs hd
end
section
variable {X : Cx} {C : Addr} {bmB : List Value} {B newId initId : String}
/-- X(), an own exception class without own __init__ -/
theorem pmk_own0 {x : Str} {p pos : Pos} (F : ExcBaseFacts B newId initId bmB) (q : PySem.W.excIn X.K C bmB newId = true) (gC : X.mg x = some (.ref C)) (kC : PySem.W.keepIn X.K (.ref C) = true) (r : Raises X (.ref C)) (hg : Gl X x)
    (hdb : (x == ("__debug__" : Str)) = false := by decide) : PMk X (.Call (.Name x p) [] [] pos) (fun _ H Q => Q (.ref C) none H) := by
  intro pins s σ H Q I h
  refine wpAny_Call_Name_kw (ld_glob I hg gC ?_ hdb)
  refine PySem.W.callWith_K0 I.kIn kC ?_
  show wpAny _ _ (call (.ref C) []) _ _ _
  obtain ⟨bm, N, nm, qn, bs, hdct, sn, sub, ab, col, dd, k0, k1, k2, k3, k5, mN, hC, hN, hni, T⟩ := exc_obj I.kIn q
  refine wpAny_call_exc_subT F T hC hN hni (fun h' e hm => ?_) (Nat.zero_le _)
  exact mk_of I hm r h (I.hok.gone hm.new)
end
/-- a def with one default, called with all its arguments -/
structure DefD (K : PySem.W.Frag) (mg : Str → Option Value) (x : Str) (st : Stmt) (ps : List Str) (f : Addr) (fd : FuncData) : Prop where
  fn : ∃ dvs kws, FunD K x x (defArgs st) (defBody st) (defScope st) dvs kws f fd
  mgf : mg x = some (.ref f)
  bi : Binds K fd ps []
section
variable {P : Program} {w : World} {K : PySem.W.Frag} {mg : Str → Option Value} {base : Heap}
theorem cal_ofD {x : Str} {st : Stmt} {f : Addr} {fd : FuncData} {N ps : List Str} {k : Nat} {sp : Sp} (F : DefD K mg x st ps f fd) (S : FnScope N ps (defScope st)) (len : ∀ vs H Q E, sp vs H Q E → vs.length = ps.length)
    (hbody : ∀ (cdv : Value) (A : Around) (outer : List Env) (s : Shared) (H : Hp) (vs : List V) (Q : VK) (E : XK), Room k (A.deeper (envOfC x (defScope st) s.heap.objs.size f cdv)) → sp vs H Q E →
      ∃ t, PSs (cxOf (L2.CX P w) P w K mg base N x (defScope st) f cdv A outer s H E).nox (defBody st) t ∧ t { nx := fun _ H' => Q .non H', rt := Q } (start N vs) H) : Cal P w K mg base (k + 1) x sp := by
  obtain ⟨dvs, kws, F0⟩ := F.fn
  exact ⟨f, fd, ps, F0.ok S len fun cdv A outer s H vs Q E hr h => let ⟨t, h1, h2⟩ := hbody cdv A outer s H vs Q E hr h; ⟨t, h1.nox, h2⟩, F.mgf, F0.kp, F.bi⟩
end

/-- an own exception class over ValueError, without own __init__ -/
structure ExcF (K : PySem.W.Frag) (mg : Str → Option Value) (x : Str) (C : Addr) : Prop where
  xin : PySem.W.excIn K C [.type "ValueError", .type "Exception", .type "BaseException", .type "object"] "ValueError.__new__" = true
  gl : mg x = some (.ref C)
  kp : PySem.W.keepIn K (.ref C) = true
  sub : PySem.W.subIn K (.ref C) (.type "BaseException") = some true
  ty : PySem.W.typeIn K (.ref C) = some (.type "type")

/-! ### truth of a list -/
def tTru (K : PySem.W.Frag) (ta : TE) : TT := fun σ H Q => ta σ H fun x H' => ∃ k, TruV K x H' k ∧ Q k H'
section
variable {X : Cx} {K : PySem.W.Frag}
theorem k_tru {a : Expr} {ta : TE} (h : X.K = K) (ha : PE X a ta) (he : ∀ whole, isTrue a X.env whole = (do let v ← whole; standAt a.pos; holding [v] (truthy v)) := by intro _; rfl) : PT X a (tTru K ta) := h ▸ pt_truth ha he
variable {σ : L2.St} {H : Hp} {ta : TE} {a : Addr} {xs : List V}
theorem w_tru {R : Bool → Hp → Prop} (h : ta σ H fun x H' => ∃ k, TruV K x H' k ∧ R k H') : tTru K ta σ H R := h
theorem w_truL {R : Bool → Prop} (h : SqL K H a xs) (q : R (!xs.isEmpty)) : ∃ k, TruV K (.ref a) H k ∧ R k := ⟨_, .inl ⟨xs, h, rfl⟩, q⟩
theorem w_truT {R : Bool → Prop} (h : SqT K H a xs) (q : R (!xs.isEmpty)) : ∃ k, TruV K (.ref a) H k ∧ R k := ⟨_, .inr (.inl ⟨xs, h, rfl⟩), q⟩
end

theorem w_bits {σ : L2.St} {H : Hp} {to : TE} {Q : VK} (h : to σ H fun x H1 => ∃ i, x = .int i ∧ Q (.int (Builtin.Int.intBits i : Nat)) H1) : tBits to σ H Q := h
end My
/-! what the end needs of the written part: defs, defaults, classes -/
namespace My
open PySem PySem.Spec PyProof.Rows L2
section
variable {K : PySem.W.Frag} {h : Heap} {mg : Str → Option Value}
theorem def_mk {x : Str} {st : Stmt} {ps : List Str} {f : Addr} {oc : Value} {od an : Option Addr} {osl : Array (Option Value)} {kV doc pm cdv ct : Value} (X : K.In h) (G : h.Ns mainGlobals mg)
    (a : PySem.W.nsIn K mainGlobals x = some (some (.ref f))) (l : K.lookup f = some ⟨oc, od, .func (PySem.W.fnOf x x (defArgs st) (defBody st) (defScope st) .none kV doc pm an cdv ct), osl⟩)
    (c : PySem.W.codeIn K cdv x = true) (k : PySem.W.keepIn K (.ref f) = true)
    (b : ∀ (kV doc pm : Value) (an : Option Addr) (cdv ct : Value) (us : List Value), us.length = ps.length → bindArgs (PySem.W.fnOf x x (defArgs st) (defBody st) (defScope st) .none kV doc pm an cdv ct) ⟨us, []⟩ = pure (ps.zip us)) :
    DefF K mg x st ps f (PySem.W.fnOf x x (defArgs st) (defBody st) (defScope st) .none kV doc pm an cdv ct) :=
  ⟨fun_mk l c k, PySem.W.mg_of X G a, (fun_mk (st := st) l c k).binds b⟩
theorem defd_mk {x : Str} {st : Stmt} {ps : List Str} {dvs : List V} {f T : Addr} {oc : Value} {od an td : Option Addr} {osl tsl : Array (Option Value)} {kV doc pm cdv ct tc : Value} {its : List Value} {n : Nat} (X : K.In h) (G : h.Ns mainGlobals mg)
    (a : PySem.W.nsIn K mainGlobals x = some (some (.ref f))) (l : K.lookup f = some ⟨oc, od, .func (PySem.W.fnOf x x (defArgs st) (defBody st) (defScope st) (.ref T) kV doc pm an cdv ct), osl⟩)
    (c : PySem.W.codeIn K cdv x = true) (k : PySem.W.keepIn K (.ref f) = true) (t : K.lookup T = some ⟨tc, td, .seq its.toArray n, tsl⟩) (d : Vals dvs its) (d0 : dvs ≠ [])
    (b : ∀ (T : Addr) (kV doc pm : Value) (an : Option Addr) (cdv ct : Value) (us its : List Value), us.length = ps.length → its.length = dvs.length →
      ∃ k, bindArgs (PySem.W.fnOf x x (defArgs st) (defBody st) (defScope st) (.ref T) kV doc pm an cdv ct) ⟨us, []⟩ = seqItems? (.ref T) >>= k ∧ k (some its.toArray) = pure (ps.zip (us ++ its.drop dvs.length))) :
    DefD K mg x st ps f (PySem.W.fnOf x x (defArgs st) (defBody st) (defScope st) (.ref T) kV doc pm an cdv ct) := by
  have F : FunD K x x (defArgs st) (defBody st) (defScope st) dvs [] f (PySem.W.fnOf x x (defArgs st) (defBody st) (defScope st) (.ref T) kV doc pm an cdv ct) :=
    ⟨⟨_, _, _, _, _, _, _, _, _, _, rfl, l, c, .inr ⟨d0, T, _, its, n, rfl, t, rfl, d⟩, .inl rfl⟩, k⟩
  refine ⟨⟨_, _, F⟩, PySem.W.mg_of X G a, ?_⟩
  obtain ⟨ds, v, B⟩ := F.binds1 ps.length dvs.length d0 (by rw [Nat.sub_self]; rfl) b
  rw [List.drop_length] at v
  cases v
  exact B
theorem exc_mk {x : Str} {C : Addr} (X : K.In h) (G : h.Ns mainGlobals mg) (a : PySem.W.nsIn K mainGlobals x = some (some (.ref C))) (i : PySem.W.excIn K C [.type "ValueError", .type "Exception", .type "BaseException", .type "object"] "ValueError.__new__" = true)
    (k : PySem.W.keepIn K (.ref C) = true) (s : PySem.W.subIn K (.ref C) (.type "BaseException") = some true) (t : PySem.W.typeIn K (.ref C) = some (.type "type")) : ExcF K mg x C := ⟨i, PySem.W.mg_of X G a, k, s, t⟩
end
end My
namespace My
open PySem PySem.Spec PyProof.Rows L2
theorem cx_no {P : Program} {w : World} {st : List Env} {H : Hp} {s s' : Shared} {e : Value} (h : L2.CX P w st H s (fun _ _ _ => False) e s') : False := by
  obtain ⟨_, _, _, _, _, _, _, _, _, _, _, _, z⟩ := h
  exact z
end My
/-! own exceptions with fields; defs called in an except suite; powers of any base -/
namespace My
open PySem PySem.Spec PyProof.Rows L2
/-! ### ** -/
def CPowG (i j : Int) : Prop := 0 ≤ j ∧ (Builtin.Int.intBits i : Int) * j ≤ 2 ^ 27
section
variable {X : Cx}
theorem op_powG : OpR X (binaryOp .Pow) (rI CPowG fun i j => .int (i ^ j.toNat)) := opI fun _ _ _ _ _ _ _ hc q => pow_int hc.1 hc.2 q
end
/-! ### a raise of an own class with its own __init__, no exception in the air -/
section
variable {X : Cx}
theorem pmk_oexN {CXa : CXT} {nm0 : Str} {e : Expr} {es : List Expr} {ta : TA} {p pos : Pos} {C fI : Addr} {k : Nat} {fd : FuncData} {ps : List Str} {sp : Sp} (T : OexC X.K C) (iC : PySem.W.findIn X.K (.ref C) "__init__" = some (some (.ref fI)))
    (tI : PySem.W.typeIn X.K (.ref fI) = some (.type "function")) (F1 : FnOk X.prog X.w X.K X.mg X.base CXa k fI fd ps sp) (hr : Room (k + 1) X.A) (hb : Binds X.K fd ps []) (hx : Passes CXa X (fun _ _ _ => False)) (hg : Gl X nm0) (hm : X.mg nm0 = some (.ref C)) (ha : PA X (e :: es) ta)
    (hdb : (nm0 == ("__debug__" : Str)) = false := by decide) (hst : starEach (e :: es) X.env = (false, eval e X.env) :: starEach es X.env := by rfl) (hpl : (backTo pos (starEach es X.env)).any (·.1) = false := by rfl) :
    L2N.PMk X (.Call (.Name nm0 p) (e :: es) [] pos) (tMkO C sp [] ta) := by
  intro pins s0 σ H0 Q0 J0 hyp
  obtain ⟨nm, q, N, bs, bm, sn, sub, ab, col, dd, k0, k1, k2, k3, k5, hC, hbm⟩ := T.cls
  refine wpAny_Call_Name_kw (ld_glob J0 hg hm ?_ hdb)
  refine PySem.W.callWith_K (h₀ := X.base) J0.ok.mod.kin T.kC (thn (ha.run pos pins s0 σ H0 _ J0 hyp) fun us s1 ⟨vs, Ha, Ja, r1, hz, qa⟩ => ⟨Ja.kIn, ?_⟩) hst hpl
  show wpAny _ _ (call (.ref C) us) _ _ _
  obtain ⟨h0, gn, dw, tk, os⟩ := s1
  let h1 : Heap := (h0.push (PySem.W.kdv_tup us)).push (PySem.HandSPX.excO C h0.objs.size)
  let ad : Addr := h0.objs.size + 1
  have fresh : Ha ad = none := Ja.hok.fresh (Nat.le_succ _)
  have qb := qa ad fresh
  rw [List.append_nil] at qb
  have keep : ∀ b o, h0.get? b = some o → h1.get? b = some o := fun b o z => Heap.get?_push_of_some _ (Heap.get?_push_of_some _ z)
  have there : h1.get? ad = some (PySem.HandSPX.excO C h0.objs.size) := by
    show Heap.get? ((h0.push (PySem.W.kdv_tup us)).push (PySem.HandSPX.excO C h0.objs.size)) (h0.objs.size + 1) = _
    heap_get
  have Jb : Inv X pins σ (upd Ha ad (exo ad C none)) ⟨h1, gn, dw, tk, os⟩ := Ja.laid (t' := tk) (a := ad) (o := exo ad C none) (h' := h1) keep (Nat.le_succ _) (exo_ok there)
  have r2 : Vals (V.ref ad :: vs) (Value.ref ad :: us) := .cons rfl r1
  have len1 : (Value.ref ad :: us ++ []).length = ps.length := by
    rw [List.append_nil]
    have z := r2.length
    rw [F1.len _ _ _ _ qb] at z
    exact z.symm
  have few : us.length ≤ sizeLine := by
    rw [sizeLine_eq, ← Paired.length r1]
    omega
  have bind := hb _ (Value.ref ad :: us) Jb.kIn len1
  rw [List.append_nil] at bind
  have made := F1.run _ X.stack _ _ ⟨Value.ref ad :: us, []⟩ (Value.ref ad :: us) _ _ (fun _ _ _ => False) (hr.make C us []) (Jb.env0.make C us []) bind r2 qb
  refine wpAny_call (PySem.HandSPX.call_own F.excBase_ValueError (fun Y => PySem.HandSPX.refsVE_contains Y bm hbm) (Ja.kIn _ _ hC) (PySem.W.looks_findIn Ja.kIn iC) (fun self => PySem.W.bind_fn Ja.kIn self tI) few (codeAny_mono made fun r s' out => ?_))
  cases r with
  | error er => exact hx pins σ _ _ er s' Jb out
  | ok fl =>
    cases fl with
    | next => exact False.elim out
    | brk => exact False.elim out
    | cont => exact False.elim out
    | ret u =>
      obtain ⟨v, Hb, osb, bareb, unb, hokb, rv, ev, d, fs, ea, ed, hd1, qc⟩ := out
      subst ev
      obtain ⟨h2, g2, d2, t2, os'⟩ := s'
      obtain ⟨t0, G, J, kG, ge, hoe, na⟩ := mk_end0 (d2 := d2) (t2 := t2) Ja (Nat.le_succ _) keep unb hokb osb bareb ea ed hd1
      exact ⟨rv, ad, _, _, ⟨G, g2, d2, t2, os'⟩, _, .ref C, some d, rfl, J, kG, ge, hoe, ⟨rfl, rfl, fun vs z => by cases z; rfl⟩, rfl, rfl, na, rfl, bareb, raises_own T.exC T.tyC, qc⟩
end
/-! ### defs that may raise an exception whose context is None -/
theorem passLN {X : Cx} : Passes (L2N.CX X.prog X.w) X E0 := fun _ _ _ _ _ _ _ h => by
  obtain ⟨_, _, _, _, _, _, _, _, _, _, _, _, z⟩ := h
  exact z.elim
theorem takesN0 {X : Cx} : L2N.Takes X (fun _ _ _ _ => False) := fun _ _ x => by
  obtain ⟨_, _, _, _, _, _, _, _, _, _, _, _, _, _, _, _, z⟩ := x
  exact z.elim
structure CalN (P : Program) (w : World) (K : PySem.W.Frag) (mg : Str → Option Value) (base : Heap) (k : Nat) (x : Str) (sp : Sp) : Prop where
  ex : ∃ (f : Addr) (fd : FuncData) (ps : List Str), FnOk P w K mg base (L2N.CX P w) k f fd ps sp ∧ mg x = some (.ref f) ∧ PySem.W.keepIn K (.ref f) = true ∧ Binds K fd ps []
structure CalH (P : Program) (w : World) (K : PySem.W.Frag) (mg : Str → Option Value) (base : Heap) (k : Nat) (x : Str) (sp : Sp) : Prop where
  ex : ∃ (f : Addr) (fd : FuncData) (ps : List Str), L2H.FnH P w K mg base (L2.CX P w) k f fd ps sp ∧ mg x = some (.ref f) ∧ PySem.W.keepIn K (.ref f) = true ∧ Binds K fd ps []
section
variable {P : Program} {w : World} {K : PySem.W.Frag} {mg : Str → Option Value} {base : Heap}
theorem fun_okN {x qual : Str} {st : Stmt} {f : Addr} {fd : FuncData} {N ps : List Str} {k : Nat} {sp : Sp} (F : Fun K x qual st f fd) (S : FnScope N ps (defScope st)) (len : ∀ vs H Q E, sp vs H Q E → vs.length = ps.length)
    (hbody : ∀ (cdv : Value) (A : Around) (outer : List Env) (s : Shared) (H : Hp) (vs : List V) (Q : VK) (E : XK), Room k (A.deeper (envOfC qual (defScope st) s.heap.objs.size f cdv)) → sp vs H Q E →
      ∃ t, PSs (cxOf (L2N.CX P w) P w K mg base N qual (defScope st) f cdv A outer s H E) (defBody st) t ∧ t { nx := fun _ H' => Q .non H', rt := Q } (start N vs) H) : FnOk P w K mg base (L2N.CX P w) (k + 1) f fd ps sp := by
  obtain ⟨oc, od, kV, doc, pm, an, cdv, ct, osl, rfl, lk, hcd⟩ := F.ex
  exact fn_of lk hcd S len fun A outer s H vs Q E hr h => hbody cdv A outer s H vs Q E hr h
theorem cal_ofN {x : Str} {st : Stmt} {f : Addr} {fd : FuncData} {N ps : List Str} {k : Nat} {sp : Sp} (F : DefF K mg x st ps f fd) (S : FnScope N ps (defScope st)) (len : ∀ vs H Q E, sp vs H Q E → vs.length = ps.length)
    (hbody : ∀ (cdv : Value) (A : Around) (outer : List Env) (s : Shared) (H : Hp) (vs : List V) (Q : VK) (E : XK), Room k (A.deeper (envOfC x (defScope st) s.heap.objs.size f cdv)) → sp vs H Q E →
      ∃ t, PSs (cxOf (L2N.CX P w) P w K mg base N x (defScope st) f cdv A outer s H E) (defBody st) t ∧ t { nx := fun _ H' => Q .non H', rt := Q } (start N vs) H) : CalN P w K mg base (k + 1) x sp :=
  ⟨f, fd, ps, fun_okN F.fn S len hbody, F.mgf, F.fn.kp, F.bi⟩
theorem cal_ofH {x : Str} {st : Stmt} {f : Addr} {fd : FuncData} {N ps : List Str} {k : Nat} {sp : Sp} (F : DefF K mg x st ps f fd) (S : FnScope N ps (defScope st)) (len : ∀ vs H Q E, sp vs H Q E → vs.length = ps.length)
    (hbody : ∀ (cdv : Value) (A : Around) (outer : List Env) (s : Shared) (H : Hp) (vs : List V) (Q : VK) (E : XK) (p : Addr × Obj), L2H.Hot1 A p → L2H.RoomH k (A.deeper (envOfC x (defScope st) s.heap.objs.size f cdv)) → sp vs H Q E →
      ∃ t, PSs (L2H.cxH (L2.CX P w) P w K mg base N x (defScope st) f cdv A outer s H E p).nox (defBody st) t ∧ t { nx := fun _ H' => Q .non H', rt := Q } (start N vs) H) : CalH P w K mg base (k + 1) x sp := by
  obtain ⟨oc, od, kV, doc, pm, an, cdv, ct, osl, rfl, lk, hcd⟩ := F.fn.ex
  exact ⟨f, _, ps, L2H.fn_ofH lk hcd S len fun A outer s H vs Q E p hot hr h => let ⟨t, h1, h2⟩ := hbody cdv A outer s H vs Q E p hot hr h; ⟨t, h1.nox, h2⟩, F.mgf, F.fn.kp, F.bi⟩
end
section
variable {X : Cx} {k j : Nat} {x : Str} {sp : Sp} {p pos : Pos} {e : Expr} {es : List Expr} {t : TA}
theorem pe_ccN (c : CalN X.prog X.w X.K X.mg X.base k x sp) (hr : Room j X.A) (hk : k ≤ j) (hg : Gl X x) (ha : PA X (e :: es) t)
    (hdb : (x == ("__debug__" : Str)) = false := by decide) (hst : starEach (e :: es) X.env = (false, eval e X.env) :: starEach es X.env := by rfl) (hpl : (backTo pos (starEach es X.env)).any (·.1) = false := by rfl) :
    PE X (.Call (.Name x p) (e :: es) [] pos) (tCall sp [] E0 t) := by
  obtain ⟨f, fd, ps, F, hm, kp, b⟩ := c.ex
  exact pe_call F (hr.mono hk) hg hm kp b .nil passLN ha hdb hst hpl
theorem pe_ccSN {W : WX} (c : CalN X.prog X.w X.K X.mg X.base k x sp) (hr : Room j X.A) (hk : k ≤ j) (hg : Gl X x) (tk : L2N.Takes X W) (ha : PA X (e :: es) t)
    (hdb : (x == ("__debug__" : Str)) = false := by decide) (hst : starEach (e :: es) X.env = (false, eval e X.env) :: starEach es X.env := by rfl) (hpl : (backTo pos (starEach es X.env)).any (·.1) = false := by rfl) :
    PE X (.Call (.Name x p) (e :: es) [] pos) (tCallS sp (WE W) t) := by
  obtain ⟨f, fd, ps, F, hm, kp, b⟩ := c.ex
  exact pe_callS F (hr.mono hk) hg hm kp b (fun σ => L2N.passAt tk σ) ha hdb hst hpl
theorem pe_ccH (c : CalH X.prog X.w X.K X.mg X.base k x sp) (hr : L2H.RoomH j X.A) (hk : k ≤ j) (hc : L2H.HotC X) (hg : Gl X x) (ha : PA X (e :: es) t)
    (hdb : (x == ("__debug__" : Str)) = false := by decide) (hst : starEach (e :: es) X.env = (false, eval e X.env) :: starEach es X.env := by rfl) (hpl : (backTo pos (starEach es X.env)).any (·.1) = false := by rfl) :
    PE X (.Call (.Name x p) (e :: es) [] pos) (tCallS sp (fun _ => E0) t) := by
  obtain ⟨f, fd, ps, F, hm, kp, b⟩ := c.ex
  exact L2H.pe_callH F (hr.mono hk) hc hg hm kp b (fun σ pins H s u s' I h => by
    obtain ⟨_, _, _, _, _, _, _, _, _, _, _, _, z⟩ := h
    exact z.elim) ha hdb hst hpl
end
/-- in the suite the caught exception is the hot one -/
theorem hot_suite {X : Cx} {a : Addr} {oe : Obj} {cls : Value} {d : Option Addr} {pn : List (Addr × Obj)} (hz : L2N.Zn cls d oe) (hf : ∃ vs, oe.data = .fields vs) : L2H.HotC (X.suite a ((a, oe) :: pn)) := by
  obtain ⟨vs, e⟩ := hf
  exact ⟨(a, oe), ⟨rfl, vs, e, hz.2.2 vs e⟩, List.mem_cons_self⟩
/-! ### isinstance of the caught exception, with or without fields -/
def rIsY (K : PySem.W.Frag) (a : Addr) (cls : Value) (d : Option Addr) (D : Addr) : List V → Hp → VK → Prop := fun xs H Q => ∃ (c : V) (cv : Value) (b : Bool), xs = [.ref a, c] ∧ cls = .ref D ∧ (d = none ∨ ∃ dd fs, d = some dd ∧ H dd = some (.xd fs)) ∧
  (∀ u, RelV c u → u = cv) ∧ PySem.W.kitOne K (.ref D) cv = some b ∧ Q (.bl b) H
theorem inst_xd {X : Cx} {pins : List (Addr × Obj)} {σ : L2.St} {H : Hp} {s : Shared} {a D : Addr} {oe : Obj} {d : Option Addr} {vs : Array Value} (I : Inv X pins σ H s) (hget : s.heap.get? a = some oe) (hz : Zc (.ref D) d oe) (hv : oe.data = .fields vs)
    (hd : d = none ∨ ∃ dd fs, d = some dd ∧ H dd = some (.xd fs)) : ∃ od, PySem.W.InstAt s.heap a oe D od := by
  obtain ⟨oc, odic, oda, osl⟩ := oe
  obtain ⟨h1, h2⟩ := hz
  dsimp only at h1 h2 hv
  subst h1 h2 hv
  rcases hd with e | ⟨dd, fs, e, ea⟩
  · subst e
    exact ⟨none, hget, rfl, rfl, trivial⟩
  · subst e
    obtain ⟨mA, hns, _⟩ := (show ObjOk X.prog X.w H s.heap dd (.xd fs) from I.hok dd _ ea)
    obtain ⟨ob, ho, _⟩ := lookIn_ns hns
    exact ⟨some ob, hget, rfl, rfl, ho⟩
theorem kit_excC {K : PySem.W.Frag} {a D : Addr} {oe : Obj} {od : Option Obj} (C : ExcC K D) : PySem.W.KitX K (.ref a) (.ref D) (fun h => PySem.W.InstAt h a oe D od) := by
  refine PySem.W.kitx_exc ?_ C.hg C.hk C.hs C.ha C.hn C.ht C.hm
  obtain ⟨cd, hc, _⟩ := PySem.W.any_some C.hd
  rw [hc]
  rfl
theorem k_isY {X : Cx} {K : PySem.W.Frag} {a D : Addr} {cls : Value} {d : Option Addr} {oe : Obj} {pn : List (Addr × Obj)} (h : X.K = K) (C : ExcC K D) (hz : Zc cls d oe) (hf : ∃ vs, oe.data = .fields vs) : CallR (X.suite a ((a, oe) :: pn)) (.builtin "isinstance") (rIsY K a cls d D) := by
  subst h
  intro pins s σ H xs us Q I r hyp
  obtain ⟨c, cv, b, rfl, ec, hd, hcv, e, q⟩ := hyp
  subst ec
  cases r with
  | cons rx rr =>
    cases rr with
    | cons rt rr =>
      cases rr
      cases rx
      obtain rfl := hcv _ rt
      obtain ⟨vs, hv⟩ := hf
      obtain ⟨od, J⟩ := inst_xd I (I.pin (a, oe) (List.mem_append.mpr (.inl List.mem_cons_self))).1 hz hv hd
      exact PySem.W.kia_one (kit_excC C) I.kIn J e (fun z => nomatch z) fun tk => ⟨.bl b, H, I.kept (t' := tk) fun _ _ z => z, rfl, q⟩
theorem w_isY {K : PySem.W.Frag} {D a : Addr} {d : Option Addr} {c : V} {cv : Value} {b : Bool} {H : Hp} {Q : VK} (hd : d = none ∨ ∃ dd fs, d = some dd ∧ H dd = some (.xd fs)) (hc : ∀ u, RelV c u → u = cv) (h : PySem.W.kitOne K (.ref D) cv = some b) (q : Q (.bl b) H) :
    rIsY K a (.ref D) d D [.ref a, c] H Q := ⟨c, cv, b, rfl, rfl, hd, hc, h, q⟩
theorem w_xf {a C : Addr} {cls : Value} {d : Option Addr} {f : Str} {te : TE} {σ : L2.St} {H : Hp} {Q : VK} (h : te σ H fun x H1 => x = .ref a ∧ cls = .ref C ∧ ∃ (dd : Addr) (fs : List (Str × V)) (v : V), d = some dd ∧ H1 dd = some (.xd fs) ∧ fs.lookup f = some v ∧ Q v H1) :
    tXf a cls d C f te σ H Q := h
theorem w_callS {sp : Sp} {E : L2.St → XK} {t : TA} {σ : L2.St} {H : Hp} {Q : VK} (h : t σ H fun vs H1 => sp vs H1 Q (E σ)) : tCallS sp E t σ H Q := h
theorem xf_of {K : PySem.W.Frag} {D : Addr} (C : ExcC K D) : XfC K D := ⟨C.hg, C.hk, C.hs, C.hd⟩
/-- an own class with its own __init__ -/
structure OexD (P : Program) (w : World) (K : PySem.W.Frag) (mg : Str → Option Value) (base : Heap) (k : Nat) (x : Str) (C : Addr) (sp : Sp) : Prop where
  T : OexC K C
  gl : mg x = some (.ref C)
  ex : ∃ (fI : Addr) (fd : FuncData) (ps : List Str), PySem.W.findIn K (.ref C) "__init__" = some (some (.ref fI)) ∧ PySem.W.typeIn K (.ref fI) = some (.type "function") ∧ FnOk P w K mg base (L2.CX P w) k fI fd ps sp ∧ Binds K fd ps []
theorem pmk_ox {X : Cx} {k j : Nat} {nm0 : Str} {C : Addr} {sp : Sp} {e : Expr} {es : List Expr} {ta : TA} {p pos : Pos} (O : OexD X.prog X.w X.K X.mg X.base k nm0 C sp) (hr : Room j X.A) (hk : k + 1 ≤ j) (hg : Gl X nm0) (ha : PA X (e :: es) ta)
    (hdb : (nm0 == ("__debug__" : Str)) = false := by decide) (hst : starEach (e :: es) X.env = (false, eval e X.env) :: starEach es X.env := by rfl) (hpl : (backTo pos (starEach es X.env)).any (·.1) = false := by rfl) :
    L2N.PMk X (.Call (.Name nm0 p) (e :: es) [] pos) (tMkO C sp [] ta) := by
  obtain ⟨fI, fd, ps, iC, tI, F, b⟩ := O.ex
  exact pmk_oexN O.T iC tI F (hr.mono hk) b (fun pins σ H s u s' I h => by
    obtain ⟨_, _, _, _, _, _, _, _, _, _, _, _, z⟩ := h
    exact z.elim) hg O.gl ha hdb hst hpl
/-- __init__(self, x, y): two fields -/
def sp_init2 (K : PySem.W.Frag) (C : Addr) (f g : Str) : Sp := fun vs H Q _ => ∃ (a : Addr) (x y : V), vs = [.ref a, x, y] ∧ H a = some (exo a C none) ∧
  ∀ (d : Addr) H', H d = none → d ≠ a → (∀ b, b ≠ a → b ≠ d → H' b = H b) → H' a = some (exo a C (some d)) → H' d = some (exd d [(g, y), (f, x)]) → Q .non H'
def sp_init1 (K : PySem.W.Frag) (C : Addr) (f : Str) : Sp := fun vs H Q _ => ∃ (a : Addr) (x : V), vs = [.ref a, x] ∧ H a = some (exo a C none) ∧
  ∀ (d : Addr) H', H d = none → d ≠ a → (∀ b, b ≠ a → b ≠ d → H' b = H b) → H' a = some (exo a C (some d)) → H' d = some (exd d [(f, x)]) → Q .non H'
theorem w_mkO {C : Addr} {sp : Sp} {ta : TA} {σ : L2.St} {H : Hp} {Q : XK} (h : ta σ H fun vs H1 => vs.length ≤ 1000 ∧ ∀ a, H1 a = none → sp (.ref a :: (vs ++ [])) (upd H1 a (exo a C none))
    (fun v H2 => v = .non ∧ ∃ (d : Addr) (fs : List (Str × V)), H2 a = some (exo a C (some d)) ∧ H2 d = some (exd d fs) ∧ H1 d = none ∧ Q (.ref C) (some d) (upd (del H2 a) d (.xd fs))) (fun _ _ _ => False)) : tMkO C sp [] ta σ H Q := h
theorem made_ch {H1 H' : Hp} {a C d : Addr} {o u : HO} {fs : List (Str × V)} (na : H1 a = none) (hd : upd H1 a o d = none) (da : d ≠ a) (hk : ∀ b, b ≠ a → b ≠ d → H' b = upd H1 a o b) : Ch [] H1 (upd (del H' a) d u) := fun b ob e => by
  have n1 : b ≠ a := ne_of_none e na
  have hd1 : H1 d = none := by rw [upd_ne da] at hd; exact hd
  have n2 : b ≠ d := ne_of_none e hd1
  left
  rw [upd_ne n2, del_ne n1, hk b n1 n2, upd_ne n1]
  exact e
theorem mk2_at {K : PySem.W.Frag} {C : Addr} {f g : Str} {x y : V} {H1 : Hp} {Q : XK} (h : ∀ (d : Addr) H', Ch [] H1 H' → H' d = some (.xd [(g, y), (f, x)]) → Q (.ref C) (some d) H') :
    [x, y].length ≤ 1000 ∧ ∀ a, H1 a = none → sp_init2 K C f g (.ref a :: ([x, y] ++ [])) (upd H1 a (exo a C none))
      (fun v H2 => v = .non ∧ ∃ (d : Addr) (fs : List (Str × V)), H2 a = some (exo a C (some d)) ∧ H2 d = some (exd d fs) ∧ H1 d = none ∧ Q (.ref C) (some d) (upd (del H2 a) d (.xd fs))) (fun _ _ _ => False) :=
  ⟨(show 2 ≤ 1000 by decide), fun a na => ⟨a, x, y, rfl, upd_same, fun d H' hd da hk ha hd2 => ⟨rfl, d, _, ha, hd2, by rw [upd_ne da] at hd; exact hd, h d _ (made_ch (C := C) (fs := []) na hd da hk) upd_same⟩⟩⟩
theorem mk1_at {K : PySem.W.Frag} {C : Addr} {f : Str} {x : V} {H1 : Hp} {Q : XK} (h : ∀ (d : Addr) H', Ch [] H1 H' → H' d = some (.xd [(f, x)]) → Q (.ref C) (some d) H') :
    [x].length ≤ 1000 ∧ ∀ a, H1 a = none → sp_init1 K C f (.ref a :: ([x] ++ [])) (upd H1 a (exo a C none))
      (fun v H2 => v = .non ∧ ∃ (d : Addr) (fs : List (Str × V)), H2 a = some (exo a C (some d)) ∧ H2 d = some (exd d fs) ∧ H1 d = none ∧ Q (.ref C) (some d) (upd (del H2 a) d (.xd fs))) (fun _ _ _ => False) :=
  ⟨(show 1 ≤ 1000 by decide), fun a na => ⟨a, x, rfl, upd_same, fun d H' hd da hk ha hd2 => ⟨rfl, d, _, ha, hd2, by rw [upd_ne da] at hd; exact hd, h d _ (made_ch (C := C) (fs := []) na hd da hk) upd_same⟩⟩⟩
/-! ### the text of such an __init__: self.f = x; self.g = y -/
section
variable {P : Program} {w : World} {K : PySem.W.Frag} {mg : Str → Option Value} {base : Heap} {C fI : Addr} {fd : FuncData} {f g : Str} {st : Stmt} {qual : Str} {p1 p2 p3 p4 p5 p6 p7 p8 : Pos}
theorem exd_upd {H : Hp} {a d C : Addr} {o : HO} (na : H d = none) (da : d ≠ a) : upd (upd H d o) a (exo a C (some d)) d = some o := by rw [upd_ne da, upd_same]
theorem init2_pure {H : Hp} {Q : VK} {x y : V} {a : Addr} (T : OexC K C) (nf : PySem.W.findIn K (.ref C) f = some none) (ng : PySem.W.findIn K (.ref C) g = some none) (ea : H a = some (exo a C none))
    (q : ∀ (d : Addr) H', H d = none → d ≠ a → (∀ b, b ≠ a → b ≠ d → H' b = H b) → H' a = some (exo a C (some d)) → H' d = some (exd d [(g, y), (f, x)]) → Q .non H') :
    tSeq (tOst K f (tVar 0) (tVar 1)) (tOst K g (tVar 0) (tVar 2)) { nx := fun _ H' => Q .non H', rt := Q } [some (.ref a), some x, some y] H := by
  refine ⟨x, rfl, .ref a, rfl, a, C, rfl, T, nf, .inl ⟨ea, fun dx hdx hda => ⟨y, rfl, .ref a, rfl, a, C, rfl, T, ng, .inr ⟨dx, _, upd_same, exd_upd hdx hda, by simp, ?_⟩⟩⟩⟩
  refine q dx _ hdx hda (fun b hb hd => ?_) ?_ upd_same
  · rw [upd_ne hd, upd_ne hb, upd_ne hd]
  · rw [upd_ne (Ne.symm hda), upd_same]
theorem init1_pure {H : Hp} {Q : VK} {x : V} {a : Addr} (T : OexC K C) (nf : PySem.W.findIn K (.ref C) f = some none) (ea : H a = some (exo a C none))
    (q : ∀ (d : Addr) H', H d = none → d ≠ a → (∀ b, b ≠ a → b ≠ d → H' b = H b) → H' a = some (exo a C (some d)) → H' d = some (exd d [(f, x)]) → Q .non H') :
    tOst K f (tVar 0) (tVar 1) { nx := fun _ H' => Q .non H', rt := Q } [some (.ref a), some x] H := by
  refine ⟨x, rfl, .ref a, rfl, a, C, rfl, T, nf, .inl ⟨ea, fun dx hdx hda => ?_⟩⟩
  refine q dx _ hdx hda (fun b hb hd => ?_) upd_same (exd_upd hdx hda)
  rw [upd_ne hb, upd_ne hd]
end
end My
/-! own exceptions held as values: made, asked by isinstance, their fields read -/
namespace My
open PySem PySem.Spec PyProof.Rows L2
/-- an exception of the class at D stands at a -/
def Exv (H : Hp) (a D : Addr) : Prop := H a = some (ExO (.ref D) a) ∨ ∃ d fs, H a = some (exo a D (some d)) ∧ H d = some (exd d fs)
theorem Exv.ch {H H' : Hp} {a D : Addr} (h : Exv H a D) (c : Ch [] H H') : Exv H' a D := by
  rcases h with h | ⟨d, fs, h1, h2⟩
  · exact .inl (c.at0 h)
  · exact .inr ⟨d, fs, c.at0 h1, c.at0 h2⟩
/-- .. with a field f that holds v -/
def Exf (H : Hp) (a D : Addr) (fs : List (Str × V)) : Prop := ∃ d, H a = some (exo a D (some d)) ∧ H d = some (exd d fs)
theorem Exf.ch {H H' : Hp} {a D : Addr} {fs : List (Str × V)} (h : Exf H a D fs) (c : Ch [] H H') : Exf H' a D fs := by
  obtain ⟨d, h1, h2⟩ := h
  exact ⟨d, c.at0 h1, c.at0 h2⟩
theorem Exf.v {H : Hp} {a D : Addr} {fs : List (Str × V)} (h : Exf H a D fs) : Exv H a D := by
  obtain ⟨d, h1, h2⟩ := h
  exact .inr ⟨d, fs, h1, h2⟩
section
variable {X : Cx}
/-- X(), an own class without own __init__, as a value -/
theorem pe_exc0 {C : Addr} {bmB : List Value} {B newId initId : String} {x : Str} {p pos : Pos} (F : ExcBaseFacts B newId initId bmB) (q : PySem.W.excIn X.K C bmB newId = true) (gC : X.mg x = some (.ref C)) (kC : PySem.W.keepIn X.K (.ref C) = true) (hg : Gl X x)
    (hdb : (x == ("__debug__" : Str)) = false := by decide) : PE X (.Call (.Name x p) [] [] pos) (fun _ H Q => ∀ a, H a = none → Q (.ref a) (upd H a (ExO (.ref C) a))) := by
  refine ⟨fun pins s σ H Q I hyp => ?_⟩
  refine wpAny_Call_Name_kw (ld_glob I hg gC ?_ hdb)
  refine PySem.W.callWith_K0 I.kIn kC ?_
  show wpAny _ _ (call (.ref C) []) _ _ _
  obtain ⟨bm, N, nm, qn, bs, hdct, sn, sub, ab, col, dd, k0, k1, k2, k3, k5, mN, hC, hN, hni, T⟩ := exc_obj I.kIn q
  refine wpAny_call_exc_subT F T hC hN hni (fun hq a made => ?_) (Nat.zero_le _)
  have none_ : H a = none := I.hok.gone made.new
  obtain ⟨t, there, _, _⟩ := made.there
  exact ⟨.ref a, upd H a (ExO (.ref C) a), I.laidN made.keeps made.new none_ (exO_ok there ⟨rfl, rfl⟩ rfl rfl rfl (show 4 < 6 by decide)), rfl, hyp a none_⟩
/-- C(e, ..), C's own __init__ keeping sp, as a value -/
def tMkV (C : Addr) (sp : Sp) (ta : TA) : TE := fun σ H Q => ta σ H fun vs H1 => vs.length ≤ 1000 ∧ ∀ a, H1 a = none → sp (.ref a :: (vs ++ [])) (upd H1 a (exo a C none)) (fun v H2 => v = .non ∧ Q (.ref a) H2) fun _ _ _ => False
theorem pe_oexV {CXa : CXT} {nm0 : Str} {e : Expr} {es : List Expr} {ta : TA} {p pos : Pos} {C fI : Addr} {k : Nat} {fd : FuncData} {ps : List Str} {sp : Sp} (T : OexC X.K C) (iC : PySem.W.findIn X.K (.ref C) "__init__" = some (some (.ref fI)))
    (tI : PySem.W.typeIn X.K (.ref fI) = some (.type "function")) (F1 : FnOk X.prog X.w X.K X.mg X.base CXa k fI fd ps sp) (hr : Room (k + 1) X.A) (hb : Binds X.K fd ps []) (hx : Passes CXa X (fun _ _ _ => False)) (hg : Gl X nm0) (hm : X.mg nm0 = some (.ref C)) (ha : PA X (e :: es) ta)
    (hdb : (nm0 == ("__debug__" : Str)) = false := by decide) (hst : starEach (e :: es) X.env = (false, eval e X.env) :: starEach es X.env := by rfl) (hpl : (backTo pos (starEach es X.env)).any (·.1) = false := by rfl) :
    PE X (.Call (.Name nm0 p) (e :: es) [] pos) (tMkV C sp ta) := by
  refine ⟨fun pins s0 σ H0 Q0 J0 hyp => ?_⟩
  obtain ⟨nm, q, N, bs, bm, sn, sub, ab, col, dd, k0, k1, k2, k3, k5, hC, hbm⟩ := T.cls
  refine wpAny_Call_Name_kw (ld_glob J0 hg hm ?_ hdb)
  refine PySem.W.callWith_K (h₀ := X.base) J0.ok.mod.kin T.kC (thn (ha.run pos pins s0 σ H0 _ J0 hyp) fun us s1 ⟨vs, Ha, Ja, r1, hz, qa⟩ => ⟨Ja.kIn, ?_⟩) hst hpl
  show wpAny _ _ (call (.ref C) us) _ _ _
  obtain ⟨h0, gn, dw, tk, os⟩ := s1
  let h1 : Heap := (h0.push (PySem.W.kdv_tup us)).push (PySem.HandSPX.excO C h0.objs.size)
  let ad : Addr := h0.objs.size + 1
  have fresh : Ha ad = none := Ja.hok.fresh (Nat.le_succ _)
  have qb := qa ad fresh
  rw [List.append_nil] at qb
  have keep : ∀ b o, h0.get? b = some o → h1.get? b = some o := fun b o z => Heap.get?_push_of_some _ (Heap.get?_push_of_some _ z)
  have there : h1.get? ad = some (PySem.HandSPX.excO C h0.objs.size) := by
    show Heap.get? ((h0.push (PySem.W.kdv_tup us)).push (PySem.HandSPX.excO C h0.objs.size)) (h0.objs.size + 1) = _
    heap_get
  have Jb : Inv X pins σ (upd Ha ad (exo ad C none)) ⟨h1, gn, dw, tk, os⟩ := Ja.laid (t' := tk) (a := ad) (o := exo ad C none) (h' := h1) keep (Nat.le_succ _) (exo_ok there)
  have r2 : Vals (V.ref ad :: vs) (Value.ref ad :: us) := .cons rfl r1
  have len1 : (Value.ref ad :: us ++ []).length = ps.length := by
    rw [List.append_nil]
    have z := r2.length
    rw [F1.len _ _ _ _ qb] at z
    exact z.symm
  have few : us.length ≤ sizeLine := by
    rw [sizeLine_eq, ← Paired.length r1]
    omega
  have bind := hb _ (Value.ref ad :: us) Jb.kIn len1
  rw [List.append_nil] at bind
  have made := F1.run _ X.stack _ _ ⟨Value.ref ad :: us, []⟩ (Value.ref ad :: us) _ _ (fun _ _ _ => False) (hr.make C us []) (Jb.env0.make C us []) bind r2 qb
  refine wpAny_call (PySem.HandSPX.call_own F.excBase_ValueError (fun Y => PySem.HandSPX.refsVE_contains Y bm hbm) (Ja.kIn _ _ hC) (PySem.W.looks_findIn Ja.kIn iC) (fun self => PySem.W.bind_fn Ja.kIn self tI) few (codeAny_mono made fun r s' out => ?_))
  cases r with
  | error er => exact hx pins σ _ _ er s' Jb out
  | ok fl =>
    cases fl with
    | next => exact False.elim out
    | brk => exact False.elim out
    | cont => exact False.elim out
    | ret u =>
      obtain ⟨v, Hb, Jc, rv, ev, qc⟩ := Jb.after out
      subst ev
      exact ⟨rv, .ref ad, Hb, Jc, rfl, qc⟩
theorem pe_oxV {k j : Nat} {nm0 : Str} {C : Addr} {sp : Sp} {e : Expr} {es : List Expr} {ta : TA} {p pos : Pos} (O : OexD X.prog X.w X.K X.mg X.base k nm0 C sp) (hr : Room j X.A) (hk : k + 1 ≤ j) (hg : Gl X nm0) (ha : PA X (e :: es) ta)
    (hdb : (nm0 == ("__debug__" : Str)) = false := by decide) (hst : starEach (e :: es) X.env = (false, eval e X.env) :: starEach es X.env := by rfl) (hpl : (backTo pos (starEach es X.env)).any (·.1) = false := by rfl) :
    PE X (.Call (.Name nm0 p) (e :: es) [] pos) (tMkV C sp ta) := by
  obtain ⟨fI, fd, ps, iC, tI, F, b⟩ := O.ex
  exact pe_oexV O.T iC tI F (hr.mono hk) b (fun pins σ H s u s' I h => by
    obtain ⟨_, _, _, _, _, _, _, _, _, _, _, _, z⟩ := h
    exact z.elim) hg O.gl ha hdb hst hpl
/-- the instance behind a tracked exception -/
theorem inst_exv {pins : List (Addr × Obj)} {σ : L2.St} {H : Hp} {s : Shared} {a D : Addr} (I : Inv X pins σ H s) (h : Exv H a D) : ∃ oe od, PySem.W.InstAt s.heap a oe D od := by
  rcases h with h | ⟨d, fs, h1, h2⟩
  · obtain ⟨⟨oe, vs, ho, hz, hd, _⟩, _, _⟩ := I.hok a _ h
    obtain ⟨oc, odic, oda, osl⟩ := oe
    obtain ⟨z1, z2⟩ := hz
    dsimp only at z1 z2 hd
    subst z1 z2 hd
    exact ⟨_, none, ho, rfl, rfl, trivial⟩
  · obtain ⟨t1, ho⟩ := exo_at I.hok h1
    obtain ⟨mA, hns, _⟩ := exd_at I.hok h2
    obtain ⟨ob, hob, _⟩ := lookIn_ns hns
    exact ⟨_, some ob, ho, rfl, rfl, hob⟩
def rIsV (K : PySem.W.Frag) : List V → Hp → VK → Prop := fun xs H Q => ∃ (a D : Addr) (c : V) (cv : Value) (b : Bool), xs = [.ref a, c] ∧ Exv H a D ∧ ExcC K D ∧ (∀ u, RelV c u → u = cv) ∧ PySem.W.kitOne K (.ref D) cv = some b ∧ Q (.bl b) H
theorem k_isV {K : PySem.W.Frag} (h : X.K = K) : CallR X (.builtin "isinstance") (rIsV K) := by
  subst h
  intro pins s σ H xs us Q I r hyp
  obtain ⟨a, D, c, cv, b, rfl, hv, C, hcv, e, q⟩ := hyp
  cases r with
  | cons rx rr =>
    cases rr with
    | cons rt rr =>
      cases rr
      cases rx
      obtain rfl := hcv _ rt
      obtain ⟨oe, od, J⟩ := inst_exv I hv
      exact PySem.W.kia_one (kit_excC C) I.kIn J e (fun z => nomatch z) fun tk => ⟨.bl b, H, I.kept (t' := tk) fun _ _ z => z, rfl, q⟩
/-- err.f of a held exception -/
def tXa (K : PySem.W.Frag) (f : Str) (te : TE) : TE := fun σ H Q => te σ H fun x H1 => ∃ (a D : Addr) (fs : List (Str × V)) (v : V), x = .ref a ∧ Exf H1 a D fs ∧ XfC K D ∧ PySem.W.findIn K (.ref D) f = some none ∧ fs.lookup f = some v ∧ Q v H1
theorem pe_xa {K : PySem.W.Frag} {e : Expr} {te : TE} {pos : Pos} {n : Str} (h : X.K = K) (he : PE X e te) (hb : attributeBase e n X.env (eval e X.env) = eval e X.env := by rfl) : PE X (.Attribute e n pos) (tXa K n te) := by
  subst h
  refine ⟨fun pins s σ H Q I hyp => ?_⟩
  refine attr_of hb (thn (he.run pins s σ H _ I hyp) fun u s1 hh => ?_)
  obtain ⟨x, H1, I1, rx, a, D, fs, v, ex, ⟨d, e1, e2⟩, T, hno, l, q⟩ := hh
  subst ex
  obtain rfl : u = Value.ref a := rx
  obtain ⟨t1, ho⟩ := exo_at I1.hok e1
  obtain ⟨mA, hns, hrel⟩ := exd_at I1.hok e2
  obtain ⟨ob, hob, hl⟩ := lookIn_ns hns
  obtain ⟨w, hw, rw'⟩ := RelO.some_of (v := v) (o := mA n) (by rw [← l]; exact hrel n)
  exact HandSPX.exc_get I1.kIn (⟨ho, rfl, rfl, hob⟩ : PySem.W.InstAt s1.heap a _ D (some ob)) T.ga T.gg T.exC (PySem.W.findObj_own T.hdC hno rfl (by rw [hl, hw])) (handed_of rw') ⟨v, H1, I1.tok _, rw', q⟩
end
end My
/-! defs that are called in an except suite with the caught exception itself -/
namespace My
open PySem PySem.Spec PyProof.Rows L2
/-- sp a: the promise where the exception that is handled stands at a; its class is D, without fields -/
structure FnP (P : Program) (w : World) (K : PySem.W.Frag) (mg : Str → Option Value) (base : Heap) (CX : CXT) (k : Nat) (D f : Addr) (fd : FuncData) (ps : List Str) (sp : Addr → Sp) : Prop where
  len : ∀ a vs H Q E, sp a vs H Q E → vs.length = ps.length
  run : ∀ (A : Around) (outer : List Env) (s : Shared) (H : Hp) (args : Args) (us : List Value) (vs : List V) (Q : VK) (E : XK) (p : Addr × Obj), L2H.RoomH k A → L2H.Hot1 A p → Zc (.ref D) none p.2 → L2H.PinOk outer H s p → Env0 P w K mg base A outer s H → BindsTo s fd args (ps.zip us) → Vals vs us → sp p.1 vs H Q E →
    codeAny (model P w) A (.call (.ref f) args) (CR CX outer P w H s Q E) s
theorem fn_ofP {CX : CXT} {P : Program} {w : World} {K : PySem.W.Frag} {mg : Str → Option Value} {base : Heap} {k : Nat} {D f : Addr} {name qual : Str} {params : Arguments} {body : List Stmt} {scope : Scope} {dV kV doc pm cdv ct oc : Value} {an od : Option Addr}
    {osl : Array (Option Value)} {N ps : List Str} {sp : Addr → Sp} (lk : K.lookup f = some ⟨oc, od, .func (PySem.W.fnOf name qual params body scope dV kV doc pm an cdv ct), osl⟩) (code : PySem.W.codeIn K cdv qual = true) (S : FnScope N ps scope)
    (len : ∀ a vs H Q E, sp a vs H Q E → vs.length = ps.length)
    (hbody : ∀ (A : Around) (outer : List Env) (s : Shared) (H : Hp) (vs : List V) (Q : VK) (E : XK) (p : Addr × Obj), L2H.Hot1 A p → Zc (.ref D) none p.2 → L2H.RoomH k (A.deeper (envOfC qual scope s.heap.objs.size f cdv)) → sp p.1 vs H Q E →
      ∃ t, PSs (L2H.cxH CX P w K mg base N qual scope f cdv A outer s H E p) body t ∧ t { nx := fun _ H' => Q .non H', rt := Q } (L2.start N vs) H) :
    FnP P w K mg base CX (k + 1) D f (PySem.W.fnOf name qual params body scope dV kV doc pm an cdv ct) ps sp := by
  refine ⟨len, fun A outer s H args us vs Q E p room hot zc pinOk env0 binds rel hyp => ?_⟩
  have many := len _ _ _ _ _ hyp
  have KX : K.In s.heap := env0.mod.kin.keeps fun b o e => (env0.bs b o e).1
  have lim : s.heap.NoLimit := env0.mod.nolimit.keeps fun b o e => (env0.bs b o e).1
  have kinds : ∀ y ∈ ps.zip us, scope.names.lookup y.1 = some .local ∨ (scope.names.lookup y.1 = some .cell ∧ ((cellsFrom (s.heap.objs.size + 1) scope.names []).lookup y.1).isSome = true) := fun ⟨n, v⟩ hy => by
    rcases S.par n (List.of_mem_zip hy).1 with z | z
    · exact .inl z
    · exact .inr ⟨z, PySem.W.cellsFrom_some _ _ _ (.inl z)⟩
  refine codeAny_call_function room.depth (KX _ _ lk) rfl S.co S.gen rfl (PySem.W.codeRec_of KX code) (binds _ _ _ _ ?_)
  refine wpAny_newFunctionEnv_cells S.kind kinds fun env he s1 x => ?_
  subst he
  refine ⟨lim.keeps x.toInCall.keep, codeAny_func ?_⟩
  obtain ⟨t, ht, hq⟩ := hbody A outer s H vs Q E p hot zc (room.deeper _) hyp
  have J : Inv (L2H.cxH CX P w K mg base N qual scope f cdv A outer s H E p) [] (L2.start N vs) H s1 := L2H.inv_startH S pinOk env0 many rel x
  refine wpAny_mono (ht.run [] s1 (L2.start N vs) H _ J hq) (fun fl s' hs => ?_) fun e s' hs => hs
  have fin : ∀ {σ' : L2.St} {H' : Hp} {v : V} {u : Value}, Inv (L2H.cxH CX P w K mg base N qual scope f cdv A outer s H E p) [] σ' H' s' → RelV v u → Q v H' → CE outer P w H s Q u s' :=
    fun {σ' H' v u} J' rv q => ⟨v, H', J'.os, J'.bare, J'.base, J'.hok, rv, q⟩
  cases fl with
  | ret u =>
    obtain ⟨v, σ', H', J', rv, q⟩ := hs
    exact fin J' rv q
  | next =>
    obtain ⟨σ', H', J', q⟩ := hs
    exact fin (v := V.non) (u := Value.none) J' rfl q
  | brk =>
    obtain ⟨_, _, _, q⟩ := hs
    exact False.elim q
  | cont =>
    obtain ⟨_, _, _, q⟩ := hs
    exact False.elim q
/-- the context bears the handled exception, at a, of the class D -/
def HotP (X : Cx) (a D : Addr) : Prop := ∃ p : Addr × Obj, p.1 = a ∧ L2H.Hot1 X.A p ∧ p ∈ X.pn ∧ Zc (.ref D) none p.2
theorem HotP.hot {X : Cx} {a D : Addr} (h : HotP X a D) : L2H.HotC X := by
  obtain ⟨p, _, h1, h2, _⟩ := h
  exact ⟨p, h1, h2⟩
section
variable {X : Cx} {CX : CXT} {k : Nat} {D f a : Addr} {fd : FuncData} {ps : List Str} {sp : Addr → Sp} {E : L2.St → XK} {x : Str} {q pos : Pos} {e : Expr} {es : List Expr} {t : TA}
theorem run_fnP {pins : List (Addr × Obj)} {σ : L2.St} {H : Hp} {s : Shared} {Q : VK} {us : List Value} {vs : List V} (F : FnP X.prog X.w X.K X.mg X.base CX k D f fd ps sp) (hr : L2H.RoomH k X.A) (hc : HotP X a D) (hb : Binds X.K fd ps []) (hx : PassesAt CX X σ (E σ))
    (I : Inv X pins σ H s) (r : Vals vs us) (h : sp a vs H Q (E σ)) : wpAny (model X.prog X.w) X.A (call (.ref f) us) (EP X pins σ Q) X.xe s := by
  obtain ⟨p, rfl, hot, hp, zc⟩ := hc
  have many : us.length = ps.length := by rw [← r.length]; exact F.len _ _ _ _ _ h
  have b := hb s us I.kIn (by rw [List.append_nil]; exact many)
  rw [List.append_nil] at b
  have P1 := I.pin p (List.mem_append_left _ hp)
  have pinOk : L2H.PinOk X.stack H s p := ⟨P1.1, P1.2.1, fun mm => (List.mem_cons.mp (I.stkSub p.1 mm)).elim P1.2.2.1 P1.2.2.2.1, P1.2.2.2.2⟩
  refine wpAny_call (codeAny_mono (F.run X.A X.stack s H ⟨us, []⟩ us vs Q (E σ) p hr hot zc pinOk I.env0 b r h) fun r s' hq => ?_)
  cases r with
  | error e => exact hx pins H s e s' I hq
  | ok fl =>
    cases fl with
    | ret u => exact I.after hq
    | next => exact False.elim hq
    | brk => exact False.elim hq
    | cont => exact False.elim hq
end
structure CalP (P : Program) (w : World) (K : PySem.W.Frag) (mg : Str → Option Value) (base : Heap) (k : Nat) (D : Addr) (x : Str) (sp : Addr → Sp) : Prop where
  ex : ∃ (f : Addr) (fd : FuncData) (ps : List Str), FnP P w K mg base (L2.CX P w) k D f fd ps sp ∧ mg x = some (.ref f) ∧ PySem.W.keepIn K (.ref f) = true ∧ Binds K fd ps []
theorem FnP.mono {P : Program} {w : World} {K : PySem.W.Frag} {mg : Str → Option Value} {base : Heap} {CX : CXT} {j k : Nat} {D f : Addr} {fd : FuncData} {ps : List Str} {sp : Addr → Sp} (F : FnP P w K mg base CX j D f fd ps sp) (h : j ≤ k) : FnP P w K mg base CX k D f fd ps sp :=
  ⟨F.len, fun A outer s H args us vs Q E p hr => F.run A outer s H args us vs Q E p (hr.mono h)⟩
theorem cal_ofP {P : Program} {w : World} {K : PySem.W.Frag} {mg : Str → Option Value} {base : Heap} {x : Str} {st : Stmt} {D f : Addr} {fd : FuncData} {N ps : List Str} {k : Nat} {sp : Addr → Sp} (F : DefF K mg x st ps f fd) (S : FnScope N ps (defScope st)) (len : ∀ a vs H Q E, sp a vs H Q E → vs.length = ps.length)
    (hbody : ∀ (cdv : Value) (A : Around) (outer : List Env) (s : Shared) (H : Hp) (vs : List V) (Q : VK) (E : XK) (p : Addr × Obj), L2H.Hot1 A p → Zc (.ref D) none p.2 → L2H.RoomH k (A.deeper (envOfC x (defScope st) s.heap.objs.size f cdv)) → sp p.1 vs H Q E →
      ∃ t, PSs (L2H.cxH (L2.CX P w) P w K mg base N x (defScope st) f cdv A outer s H E p).nox (defBody st) t ∧ t { nx := fun _ H' => Q .non H', rt := Q } (start N vs) H) : CalP P w K mg base (k + 1) D x sp := by
  obtain ⟨oc, od, kV, doc, pm, an, cdv, ct, osl, rfl, lk, hcd⟩ := F.fn.ex
  exact ⟨f, _, ps, fn_ofP lk hcd S len fun A outer s H vs Q E p hot zc hr h => let ⟨t, h1, h2⟩ := hbody cdv A outer s H vs Q E p hot zc hr h; ⟨t, h1.nox, h2⟩, F.mgf, F.fn.kp, F.bi⟩
section
variable {X : Cx} {k j : Nat} {D a : Addr} {x : Str} {sp : Addr → Sp} {p pos : Pos} {e : Expr} {es : List Expr} {t : TA}
theorem pe_ccP (c : CalP X.prog X.w X.K X.mg X.base k D x sp) (hr : L2H.RoomH j X.A) (hk : k ≤ j) (hc : HotP X a D) (hg : Gl X x) (ha : PA X (e :: es) t)
    (hdb : (x == ("__debug__" : Str)) = false := by decide) (hst : starEach (e :: es) X.env = (false, eval e X.env) :: starEach es X.env := by rfl) (hpl : (backTo pos (starEach es X.env)).any (·.1) = false := by rfl) :
    PE X (.Call (.Name x p) (e :: es) [] pos) (tCallS (sp a) (fun _ => E0) t) := by
  obtain ⟨f, fd, ps, F, hm, kp, b⟩ := c.ex
  refine ⟨fun pins s σ H Q I hyp => ?_⟩
  refine wpAny_Call_Name_kw (ld_glob I hg hm ?_ hdb)
  refine PySem.W.callWith_K (h₀ := X.base) I.ok.mod.kin kp (thn (ha.run pos pins s σ H _ I hyp) fun us s1 ⟨vs, H1, I1, r, q⟩ => ⟨I1.kIn, ?_⟩) hst hpl
  exact run_fnP (E := fun _ => E0) (F.mono hk) hr hc b (fun pins' H' s' u s2 I' h' => by
    obtain ⟨_, _, _, _, _, _, _, _, _, _, _, _, z⟩ := h'
    exact z.elim) I1 r q
/-- isinstance of the handled exception -/
theorem k_isP {K : PySem.W.Frag} (h : X.K = K) (C : ExcC K D) (hc : HotP X a D) : CallR X (.builtin "isinstance") (rIsE K D a) := by
  subst h
  intro pins s σ H xs us Q I r hyp
  obtain ⟨c, cv, b, rfl, hcv, e, q⟩ := hyp
  obtain ⟨p, rfl, ⟨_, vs, hv, _⟩, hp, zc⟩ := hc
  cases r with
  | cons rx rr =>
    cases rr with
    | cons rt rr =>
      cases rr
      cases rx
      obtain rfl := hcv _ rt
      obtain ⟨od, J⟩ := inst_xd I (I.pin p (List.mem_append_left _ hp)).1 zc hv (.inl rfl)
      exact PySem.W.kia_one (kit_excC C) I.kIn J e (fun z => nomatch z) fun tk => ⟨.bl b, H, I.kept (t' := tk) fun _ _ z => z, rfl, q⟩
end
theorem hotP_suite {X : Cx} {a D : Addr} {oe : Obj} {cls : Value} {d : Option Addr} {pn : List (Addr × Obj)} (h : cls = .ref D ∧ d = none) (hz : L2N.Zn cls d oe) (hf : ∃ vs, oe.data = .fields vs) : HotP (X.suite a ((a, oe) :: pn)) a D := by
  obtain ⟨rfl, rfl⟩ := h
  obtain ⟨vs, e⟩ := hf
  exact ⟨(a, oe), rfl, ⟨rfl, vs, e, hz.2.2 vs e⟩, List.mem_cons_self, hz.zc⟩
theorem pss_under {X : Cx} {A : Prop} {b : List Stmt} {t : TS} (h : A → PSs X b t) : PSs X b (fun D σ H => A ∧ t D σ H) := ⟨fun pins s σ H D I q => (h q.1).run pins s σ H D I q.2⟩
end My
namespace My
open PySem PySem.Spec PyProof.Rows L2
section
variable {X : Cx}
/-- X() raised, an own class without own __init__, nothing in the air -/
theorem pmk_own0N {C : Addr} {bmB : List Value} {B newId initId : String} {x : Str} {p pos : Pos} (F : ExcBaseFacts B newId initId bmB) (q : PySem.W.excIn X.K C bmB newId = true) (gC : X.mg x = some (.ref C)) (kC : PySem.W.keepIn X.K (.ref C) = true) (r : Raises X (.ref C)) (hg : Gl X x)
    (hdb : (x == ("__debug__" : Str)) = false := by decide) : L2N.PMk X (.Call (.Name x p) [] [] pos) (fun _ H Q => Q (.ref C) none H) := by
  intro pins s0 σ H Q0 I hyp
  refine wpAny_Call_Name_kw (ld_glob I hg gC ?_ hdb)
  refine PySem.W.callWith_K0 I.kIn kC ?_
  show wpAny _ _ (call (.ref C) []) _ _ _
  obtain ⟨bm, N, nm, qn, bs, hdct, sn, sub, ab, col, dd, k0, k1, k2, k3, k5, mN, hC, hN, hni, T⟩ := exc_obj I.kIn q
  refine wpAny_call_exc_subT F T hC hN hni (fun hq e made => ?_) (Nat.zero_le _)
  exact L2N.mk_of I made r hyp (I.hok.gone made.new)
end
/-- a def whose last defaults dvs are not written -/
structure CalD (P : Program) (w : World) (K : PySem.W.Frag) (mg : Str → Option Value) (base : Heap) (k : Nat) (x : Str) (dvs : List V) (sp : Sp) : Prop where
  ex : ∃ (f : Addr) (fd : FuncData) (ps : List Str) (ds : List Value), FnOk P w K mg base (L2N.CX P w) k f fd ps sp ∧ mg x = some (.ref f) ∧ PySem.W.keepIn K (.ref f) = true ∧ Binds K fd ps ds ∧ Vals dvs ds
section
variable {X : Cx} {k j : Nat} {x : Str} {sp : Sp} {dvs : List V} {p pos : Pos} {e : Expr} {es : List Expr} {t : TA}
theorem pe_ccD (c : CalD X.prog X.w X.K X.mg X.base k x dvs sp) (hr : Room j X.A) (hk : k ≤ j) (hg : Gl X x) (ha : PA X (e :: es) t)
    (hdb : (x == ("__debug__" : Str)) = false := by decide) (hst : starEach (e :: es) X.env = (false, eval e X.env) :: starEach es X.env := by rfl) (hpl : (backTo pos (starEach es X.env)).any (·.1) = false := by rfl) :
    PE X (.Call (.Name x p) (e :: es) [] pos) (tCall sp dvs E0 t) := by
  obtain ⟨f, fd, ps, ds, F, hm, kp, b, v⟩ := c.ex
  exact pe_call F (hr.mono hk) hg hm kp b v passLN ha hdb hst hpl
end
end My
/-! the classes of errors: who is a kind of whom -/
namespace My
open PySem PySem.Spec PyProof.Rows L2
/-- a class that stands right under E, which stands right under ValueError -/
def ClsM (K : PySem.W.Frag) (E A : Addr) : Prop := ∃ cd, PySem.W.clsIn K A = some cd ∧ cd.mro = [.ref A, .ref E, .type "ValueError", .type "Exception", .type "BaseException", .type "object"]
section
variable {K : PySem.W.Frag} {E A C D : Addr} {mg : Str → Option Value} {as : List Addr} {n i : Nat}
theorem clsM_of {nm q : Str} {N : Addr} {bs : List Value} {sn : List Str} {sub : List Value} {ab : Bool} {col : Option Bool} {dd : Option Addr} {k0 k1 k2 k3 k5 : Option Value} {newId : String} {hd : Bool}
    (h : K.lookup A = some (excClassObj nm q A N bs [.ref E, .type "ValueError", .type "Exception", .type "BaseException", .type "object"] hd sn sub ab col dd k0 k1 k2 k3 k5 newId)) : ClsM K E A := by
  unfold ClsM PySem.W.clsIn
  rw [h]
  exact ⟨_, rfl, rfl⟩
theorem ClsM.sub (m : ClsM K E D) (c : Value) : PySem.W.subIn K (.ref D) c = some ([Value.ref D, .ref E, .type "ValueError", .type "Exception", .type "BaseException", .type "object"].contains c) := by
  obtain ⟨cd, h, e⟩ := m
  show PySem.W.mroIn K D c = _
  unfold PySem.W.mroIn
  rw [h]
  show (if cd.mro.isEmpty = true then none else some (cd.mro.contains c)) = _
  rw [e]
  rfl
theorem ClsM.isSome (m : ClsM K E D) : (PySem.W.clsIn K D).isSome = true := by
  obtain ⟨cd, h, _⟩ := m
  rw [h]
  rfl
theorem kit_cls_ref (m : ClsM K E D) (s : (PySem.W.clsIn K C).isSome = true) (t : PySem.W.typeIn K (.ref C) = some (.type "type")) : PySem.W.kitOne K (.ref D) (.ref C) = some (decide (C = D ∨ C = E)) := by
  unfold PySem.W.kitOne
  by_cases h : D = C
  · subst h
    rw [if_pos (beq_self_eq_true _), decide_eq_true (.inl rfl)]
  · rw [if_neg (fun z => h (by have := eq_of_beq z; injection this))]
    show (if ((PySem.W.clsIn K C).isSome && PySem.W.typeIn K (.ref C) == some (.type "type")) = true then PySem.W.subIn K (.ref D) (.ref C) else none) = _
    rw [s, t]
    show (if (true && (some (Value.type "type") == some (Value.type "type"))) = true then PySem.W.subIn K (.ref D) (.ref C) else none) = _
    rw [if_pos (by simp), m.sub]
    congr 1
    rw [Bool.eq_iff_iff, List.contains_iff_mem, decide_eq_true_iff]
    simp
theorem kit_cls_ve (m : ClsM K E D) : PySem.W.kitOne K (.ref D) (.type "ValueError") = some true := by
  unfold PySem.W.kitOne
  rw [if_neg (fun z => by cases eq_of_beq z)]
  show (if PySem.W.kitMeta "ValueError" = true then PySem.W.subIn K (.ref D) (.type "ValueError") else none) = _
  rw [if_pos (by decide +kernel), m.sub]
  congr 1
def errNames : List Str := ["DivisionByZero", "ZeroPolynomial", "HasQuantifier", "NotOneUnknown", "NothingToUndo", "InvalidPoly", "InvalidStretch", "InvalidText", "InvalidUnknown", "NoUnknown", "HasFree", "Reducible", "NoRoot", "InvalidCode", "TooDeep", "TooLarge", "InvalidPiece", "NoPiece", "InvalidSpot", "Vanishes", "NoCell", "InvalidLine", "InvalidSave", "InvalidName", "Missing", "Circular", "NotASentence"]
/-- the classes of errors stand at the addresses as, their base at E -/
structure ErrT (K : PySem.W.Frag) (mg : Str → Option Value) (E : Addr) (as : List Addr) : Prop where
  g : ∀ {i : Nat} {x : Str} {a : Addr}, errNames[i]? = some x → as[i]? = some a → mg x = some (.ref a)
  gE : mg "CellspireError" = some (.ref E)
  m : ∀ {i : Nat} {a : Addr}, as[i]? = some a → ClsM K E a
  t : ∀ {i : Nat} {a : Addr}, as[i]? = some a → PySem.W.typeIn K (.ref a) = some (.type "type")
  x : ∀ {i : Nat} {a : Addr}, as[i]? = some a → ExcC K a
  nd : as.Nodup
  ne : E ∉ as
  sE : (PySem.W.clsIn K E).isSome = true
  tE : PySem.W.typeIn K (.ref E) = some (.type "type")
theorem ErrT.kit (h : ErrT K mg E as) (hn : as[n]? = some D) (hi : as[i]? = some C) : PySem.W.kitOne K (.ref D) (.ref C) = some (decide (i = n)) := by
  rw [kit_cls_ref (h.m hn) (h.m hi).isSome (h.t hi)]
  congr 1
  rw [decide_eq_decide]
  have hl : i < as.length := (List.getElem?_eq_some_iff.mp hi).1
  refine ⟨fun z => ?_, fun z => ?_⟩
  · rcases z with z | z
    · exact (List.getElem?_inj hl h.nd).mp (by rw [hi, hn, z])
    · exact absurd (List.mem_of_getElem? hi) (by rw [z]; exact h.ne)
  · subst z
    rw [hi] at hn
    exact .inl (Option.some.inj hn)
theorem ErrT.kitE (h : ErrT K mg E as) (hn : as[n]? = some D) : PySem.W.kitOne K (.ref D) (.ref E) = some true := by
  rw [kit_cls_ref (h.m hn) h.sE h.tE, decide_eq_true (.inr rfl)]
theorem ErrT.kitV (h : ErrT K mg E as) (hn : as[n]? = some D) : PySem.W.kitOne K (.ref D) (.type "ValueError") = some true := kit_cls_ve (h.m hn)
variable {H : Hp} {Q : VK} {a : Addr}
theorem w_isV (h : ErrT K mg E as) (hn : as[n]? = some D) (v : Exv H a D) (hi : as[i]? = some C) (q : Q (.bl (decide (i = n))) H) : rIsV K [.ref a, .ref C] H Q := ⟨a, D, .ref C, .ref C, _, rfl, v, h.x hn, fun u r => r, h.kit hn hi, q⟩
theorem w_isVE (h : ErrT K mg E as) (hn : as[n]? = some D) (v : Exv H a D) (q : Q (.bl true) H) : rIsV K [.ref a, .ref E] H Q := ⟨a, D, .ref E, .ref E, _, rfl, v, h.x hn, fun u r => r, h.kitE hn, q⟩
theorem w_isVV (h : ErrT K mg E as) (hn : as[n]? = some D) (v : Exv H a D) (q : Q (.bl true) H) : rIsV K [.ref a, .ty "ValueError"] H Q := ⟨a, D, .ty "ValueError", .type "ValueError", _, rfl, v, h.x hn, fun u r => r, h.kitV hn, q⟩
theorem w_isP (h : ErrT K mg E as) (hn : as[n]? = some D) (hi : as[i]? = some C) (q : Q (.bl (decide (i = n))) H) : rIsE K D a [.ref a, .ref C] H Q := ⟨.ref C, .ref C, _, rfl, fun u r => r, h.kit hn hi, q⟩
theorem w_isPE (h : ErrT K mg E as) (hn : as[n]? = some D) (q : Q (.bl true) H) : rIsE K D a [.ref a, .ref E] H Q := ⟨.ref E, .ref E, _, rfl, fun u r => r, h.kitE hn, q⟩
theorem w_isPV (h : ErrT K mg E as) (hn : as[n]? = some D) (q : Q (.bl true) H) : rIsE K D a [.ref a, .ty "ValueError"] H Q := ⟨.ty "ValueError", .type "ValueError", _, rfl, fun u r => r, h.kitV hn, q⟩
theorem w_neB {b c : Bool} (q : Q (.bl (!decide (b = c))) H) : rNe (.bl b) (.bl c) H Q := ⟨rfl, by
  have e : decide (V.bl b = V.bl c) = decide (b = c) := by
    by_cases z : b = c
    · subst z
      rw [decide_eq_true rfl, decide_eq_true rfl]
    · rw [decide_eq_false z, decide_eq_false fun y => z (V.bl.inj y)]
  rw [e]
  exact q⟩
end
section
variable {X : Cx} {k j : Nat} {x : Str} {sp : Sp} {p pos : Pos}
/-- f() -/
theorem pe_cc0 (c : Cal X.prog X.w X.K X.mg X.base k x sp) (hr : Room j X.A) (hk : k ≤ j) (hg : Gl X x) (hdb : (x == ("__debug__" : Str)) = false := by decide) : PE X (.Call (.Name x p) [] [] pos) (tCall sp [] E0 tNil) := by
  obtain ⟨f, fd, ps, F, hm, kp, b⟩ := c.ex
  exact pe_call0 F (hr.mono hk) hg hm kp b .nil passL hdb
/-- X(), an own class without own __init__, as a value -/
def tExc0 (C : Addr) : TE := fun _ H Q => ∀ a, H a = none → Q (.ref a) (upd H a (ExO (.ref C) a))
theorem pe_exc0t {C : Addr} {bmB : List Value} {B newId initId : String} (F : ExcBaseFacts B newId initId bmB) (q : PySem.W.excIn X.K C bmB newId = true) (gC : X.mg x = some (.ref C)) (kC : PySem.W.keepIn X.K (.ref C) = true) (hg : Gl X x)
    (hdb : (x == ("__debug__" : Str)) = false := by decide) : PE X (.Call (.Name x p) [] [] pos) (tExc0 C) := pe_exc0 F q gC kC hg hdb
theorem exv_new {C : Addr} {σ : L2.St} {H : Hp} {Q : VK} (h : ∀ a H', Ch [] H H' → Exv H' a C → Q (.ref a) H') : tExc0 C σ H Q := fun a na => h a _ (Ch.new na) (.inl upd_same)
end
end My
/-! the head read by a Hook: defs, names, classes of errors -/
namespace My
open PySem PySem.Spec PyProof.Rows L2
section
variable {K : PySem.W.Frag} {h : Heap} {mg : Str → Option Value} {f : Addr} {fd : FuncData}
theorem fun_of {x q : Str} {st : Stmt} (F : FunD K x q (defArgs st) (defBody st) (defScope st) [] [] f fd) : Fun K x q st f fd := by
  obtain ⟨oc, od, dV, kV, doc, pm, an, cdv, ct, osl, e, lk, hcd, hD, hK⟩ := F.ex
  rcases hD with ⟨_, rfl⟩ | ⟨e, _⟩
  · exact ⟨⟨oc, od, kV, doc, pm, an, cdv, ct, osl, e, lk, hcd⟩, F.kp⟩
  · exact absurd rfl e
theorem defF_of {x : Str} {st : Stmt} {ps : List Str} (X : K.In h) (G : h.Ns mainGlobals mg) (g : (He.Fa.glo x).ok K = true) (F : ∃ fd, FunD K x x (defArgs st) (defBody st) (defScope st) [] [] (He.fAd K (x, none)) fd)
    (b : ∀ (kV doc pm : Value) (an : Option Addr) (cdv ct : Value) (us : List Value), us.length = ps.length → bindArgs (PySem.W.fnOf x x (defArgs st) (defBody st) (defScope st) .none kV doc pm an cdv ct) ⟨us, []⟩ = pure (ps.zip us)) :
    ∃ f fd, DefF K mg x st ps f fd ∧ (∀ (s : Shared) (us : List Value), us.length = ps.length → BindsTo s fd ⟨us, []⟩ (ps.zip us)) := by
  obtain ⟨fd, F⟩ := F
  exact ⟨_, fd, ⟨fun_of F, He.glo_ok X G g, F.bindsN b⟩, fun s us hl => F.bindsA b s us hl⟩
/-! ### the classes of errors -/
structure BaseE (K : PySem.W.Frag) (mg : Str → Option Value) (E : Addr) : Prop where
  g : mg "CellspireError" = some (.ref E)
  s : (PySem.W.clsIn K E).isSome = true
  t : PySem.W.typeIn K (.ref E) = some (.type "type")
structure KindE (K : PySem.W.Frag) (mg : Str → Option Value) (E : Addr) (x : Str) (A : Addr) : Prop where
  g : mg x = some (.ref A)
  l : ∃ nm q N bs sn sub ab col dd k0 k1 k2 k3 k5, K.lookup A = some (excClassObj nm q A N bs [.ref E, .type "ValueError", .type "Exception", .type "BaseException", .type "object"] true sn sub ab col dd k0 k1 k2 k3 k5 "ValueError.__new__")
  t : PySem.W.typeIn K (.ref A) = some (.type "type")
  x : ExcC K A
structure OwnI (K : PySem.W.Frag) (q : Str) (C : Addr) (st : Stmt) (ps : List Str) : Prop where
  T : OexC K C
  ex : ∃ (fI : Addr) (fd : FuncData), PySem.W.findIn K (.ref C) "__init__" = some (some (.ref fI)) ∧ PySem.W.typeIn K (.ref fI) = some (.type "function") ∧ Fun K "__init__" q st fI fd ∧ Binds K fd ps []
variable {E A : Addr} {x : Str}
theorem KindE.m (k : KindE K mg E x A) : ClsM K E A := by
  obtain ⟨nm, q, N, bs, sn, sub, ab, col, dd, k0, k1, k2, k3, k5, l⟩ := k.l
  exact clsM_of l
theorem KindE.exm (k : KindE K mg E x A) : PySem.W.exmOne K (.ref A) (.ref A) = some true := PySem.W.exm_ref k.x.hs k.x.hd k.t (by rw [k.m.sub]; congr 1; rw [List.contains_iff_mem]; simp)
theorem KindE.kit {B : Addr} {y : Str} (k : KindE K mg E x A) (l : KindE K mg E y B) (n : B ≠ A) (ne : B ≠ E) : PySem.W.kitOne K (.ref A) (.ref B) = some false := by
  rw [kit_cls_ref k.m l.m.isSome l.t, decide_eq_false (fun z => z.elim n ne)]
theorem KindE.kitE (k : KindE K mg E x A) (b : BaseE K mg E) : PySem.W.kitOne K (.ref A) (.ref E) = some true := by
  rw [kit_cls_ref k.m b.s b.t, decide_eq_true (.inr rfl)]
theorem KindE.kitV (k : KindE K mg E x A) : PySem.W.kitOne K (.ref A) (.type "ValueError") = some true := kit_cls_ve k.m
/-! ### .. looked at -/
theorem baseB_ok (X : K.In h) (G : h.Ns mainGlobals mg) (c : baseB K = true) : BaseE K mg (gE K) := by
  obtain ⟨c1, c2⟩ := He.ba c
  obtain ⟨c3, c4⟩ := He.ba c2
  exact ⟨He.glo_ok X G c1, c3, of_decide_eq_true c4⟩
theorem slB_ok {l : List (Option Value)} (h : slB l = true) : ∃ k0 k1 k2 k3 k5, l = [k0, k1, k2, k3, some (.builtin "ValueError.__new__"), k5] := by
  unfold slB at h
  split at h
  · rename_i a b c d n e
    have := of_decide_eq_true h
    subst this
    exact ⟨_, _, _, _, _, rfl⟩
  · cases h
theorem clsB_ok {C E : Addr} {o : Obj} (c : clsB C E o = true) : ∃ nm q N bs sn sub ab col dd k0 k1 k2 k3 k5, o = excClassObj nm q C N bs [.ref E, .type "ValueError", .type "Exception", .type "BaseException", .type "object"] true sn sub ab col dd k0 k1 k2 k3 k5 "ValueError.__new__" := by
  obtain ⟨oc, od, dt, osl⟩ := o
  cases oc with
  | type t =>
    cases dt with
    | cls cd =>
      obtain ⟨nm, bs, mro, N, q, hd, sn, sub, ab, col, del⟩ := cd
      obtain ⟨l⟩ := osl
      obtain ⟨c1, c2⟩ := He.ba (show (decide (t = "type") && (decide (mro = [.ref C, .ref E, .type "ValueError", .type "Exception", .type "BaseException", .type "object"]) && (hd && (!del && slB l)))) = true from c)
      obtain ⟨c3, c4⟩ := He.ba c2
      obtain ⟨c5, c6⟩ := He.ba c4
      obtain ⟨c7, c8⟩ := He.ba c6
      have e1 := of_decide_eq_true c1
      have e2 := of_decide_eq_true c3
      have e3 : del = false := by simpa using c7
      subst e1 e2 c5 e3
      obtain ⟨k0, k1, k2, k3, k5, e4⟩ := slB_ok c8
      subst e4
      exact ⟨nm, q, N, bs, sn, sub, ab, col, od, k0, k1, k2, k3, k5, rfl⟩
    | _ => cases c
  | _ => cases dt <;> cases c
theorem kindB_ok (X : K.In h) (G : h.Ns mainGlobals mg) (c : kindB K x = true) : KindE K mg (gE K) x (He.ga K x) := by
  obtain ⟨c1, c⟩ := He.ba c
  obtain ⟨c2, c⟩ := He.ba c
  obtain ⟨c3, c⟩ := He.ba c
  obtain ⟨c4, c⟩ := He.ba c
  obtain ⟨c5, c⟩ := He.ba c
  obtain ⟨c6, c⟩ := He.ba c
  obtain ⟨c7, c⟩ := He.ba c
  obtain ⟨c8, c⟩ := He.ba c
  obtain ⟨c9, c⟩ := He.ba c
  obtain ⟨ca, cb⟩ := He.ba c
  refine ⟨He.glo_ok X G c1, ?_, of_decide_eq_true c3, ⟨He.eqO_ok c4, He.eqO_ok c5, of_decide_eq_true c6, c7, He.eqO_ok c8, He.eqO_ok c9, of_decide_eq_true ca, of_decide_eq_true cb⟩⟩
  cases e : K.lookup (He.ga K x) with
  | none =>
    rw [e] at c2
    cases c2
  | some o =>
    rw [e] at c2
    obtain ⟨nm, q, N, bs, sn, sub, ab, col, dd, k0, k1, k2, k3, k5, eo⟩ := clsB_ok c2
    exact ⟨nm, q, N, bs, sn, sub, ab, col, dd, k0, k1, k2, k3, k5, by rw [eo]⟩
theorem excB_ok (k : KindE K mg E x (He.ga K x)) (c : excB K x = true) : ExcF K mg x (He.ga K x) := by
  obtain ⟨c1, c2⟩ := He.ba c
  exact ⟨c1, k.g, c2, k.x.hs, k.t⟩
theorem ownB_ok {q : Str} {st : Stmt} {ps : List Str} (k : KindE K mg E x (He.ga K x)) (c : ownB K x = true) (F : ∃ fd, FunD K "__init__" q (defArgs st) (defBody st) (defScope st) [] [] (He.fAd K (x, some "__init__")) fd)
    (b : ∀ (kV doc pm : Value) (an : Option Addr) (cdv ct : Value) (us : List Value), us.length = ps.length → bindArgs (PySem.W.fnOf "__init__" q (defArgs st) (defBody st) (defScope st) .none kV doc pm an cdv ct) ⟨us, []⟩ = pure (ps.zip us)) : OwnI K q (He.ga K x) st ps := by
  obtain ⟨c1, c⟩ := He.ba c
  obtain ⟨c2, c⟩ := He.ba c
  obtain ⟨c3, c4⟩ := He.ba c
  obtain ⟨fd, F⟩ := F
  obtain ⟨nm, q', N, bs, sn, sub, ab, col, dd, k0, k1', k2, k3, k5, l⟩ := k.l
  exact ⟨⟨⟨nm, q', N, bs, _, sn, sub, ab, col, dd, k0, k1', k2, k3, k5, l, rfl⟩, He.eqO_ok c1, k.x.hs, k.t, c2⟩, _, fd, He.eqO_ok c3, of_decide_eq_true c4, fun_of F, F.bindsN b⟩
theorem noat_ok {f : Str} (c : (He.Fa.noat x f).ok K = true) : PySem.W.findIn K (.ref (He.ga K x)) f = some none := He.eqO_ok c
theorem bltB_ok {n : String} (X : K.In h) (G : h.Ns mainGlobals mg) (c : bltB K x n = true) : mg x = some (.builtin n) := PySem.W.mg_of X G (He.eqO_ok c)
theorem all_at {α : Type} {p : α → Bool} {l : List α} (h : l.all p = true) (i : Nat) {a : α} (e : l[i]? = some a := by rfl) : p a = true := List.all_eq_true.mp h a (List.mem_of_getElem? e)
end
inductive AllE (K : PySem.W.Frag) (mg : Str → Option Value) (E : Addr) : List Str → List Addr → Prop
  | nil : AllE K mg E [] []
  | cons {x : Str} {A : Addr} {xs : List Str} {as : List Addr} (k : KindE K mg E x A) (r : AllE K mg E xs as) : AllE K mg E (x :: xs) (A :: as)
section
variable {K : PySem.W.Frag} {h : Heap} {mg : Str → Option Value} {E : Addr}
theorem AllE.at1 {xs : List Str} {as : List Addr} (a : AllE K mg E xs as) : ∀ {i : Nat} {A : Addr}, as[i]? = some A → ∃ x, xs[i]? = some x ∧ KindE K mg E x A := by
  induction a with
  | nil => intro i A e; cases e
  | cons k r ih =>
    intro i A e
    cases i with
    | zero =>
      cases e
      exact ⟨_, rfl, k⟩
    | succ i => exact ih e
theorem errT_of {as : List Addr} (b : BaseE K mg E) (a : AllE K mg E errNames as) (nd : as.Nodup) (ne : E ∉ as) : ErrT K mg E as where
  g := fun hx ha => by
    obtain ⟨y, hy, k⟩ := a.at1 ha
    rw [hx] at hy
    cases hy
    exact k.g
  gE := b.g
  m := fun ha => (a.at1 ha).elim fun _ h => h.2.m
  t := fun ha => (a.at1 ha).elim fun _ h => h.2.t
  x := fun ha => (a.at1 ha).elim fun _ h => h.2.x
  nd := nd
  ne := ne
  sE := b.s
  tE := b.t
end
/-- a law's end: the written part, the def and its promise told world by world -/
theorem walk_own {l : PySem.W.OpenLaw} {n k : Nat} {q : Program} {loose : List Str} {XP : (Str → Option Value) → Heap → Prop} {YP : World → Heap → Prop} {d : DefRec} {CX : World → CXT} {x : Str}
    (n1 : l.most = some n) (n2 : n ≤ sizeLine) (nd : d.params.defaults = []) (room : Room k callerA)
    (tell : ∀ (w : World) (mg : Str → Option Value) (fa : Addr) (h : Heap), YP w h → h.Ns mainGlobals mg → mg d.name = some (.ref fa) → ∃ (K : PySem.W.Frag) (fd : FuncData) (sp : Sp), K.In h ∧
      (∀ (s : Shared) (u : Value), BindsTo s fd ⟨[u], []⟩ [(x, u)]) ∧ (∀ (H : Hp) (a : Addr) (ns : List Int), ns.length ≤ n → Only H → SqL K H a (ns.map V.int) → sp [.ref a] H (fun v _ => v = .bl true) fun _ _ _ => False) ∧
      ∀ base : Heap, K.In base → base.Ns mainGlobals mg → FnOk l.prog w K mg base (CX w) k fa fd [x] sp)
    (none_ : ∀ (w : World) (H : Hp) (s : Shared) (e : Value) (s' : Shared), CX w [] H s (fun _ _ _ => False) e s' → False) : PySem.W.WalkO q loose XP YP l.row.toRowW d [] (fun f vs => PySem.call f vs) := by
  refine Att.attach_call n1 nd fun w s0 s1 mg mb fa o pm cd doc a vs ns G Y u1 u2 u3 u4 u5 u6 u7 u8 => ?_
  obtain ⟨K, fd, sp, KX, b, p, F⟩ := tell w mg fa _ Y G.T.g u4
  exact law_call KX G.T.g G.T.b G.T.builtins G.T.nolimit u8 u5 u6 (Nat.le_trans u7 n2) room F b (fun H o1 o2 => p H a ns u7 o1 o2) fun H e s' => none_ w H s1 e s'
theorem not_in {a : Addr} {l : List Addr} (h : (!l.contains a) = true) : a ∉ l := fun z => by
  rw [List.contains_iff_mem.mpr z] at h
  cases h
end My
/-! rows as plain lists of ints -/
namespace My
def coef (p : List Int) (i : Nat) : Int := p.getD i 0
theorem coef_nil (i : Nat) : coef [] i = 0 := by simp [coef]
theorem coef_cons_zero (a : Int) (p : List Int) : coef (a :: p) 0 = a := by simp [coef]
theorem coef_cons_succ (a : Int) (p : List Int) (i : Nat) : coef (a :: p) (i + 1) = coef p i := by simp [coef]
theorem coef_ge {p : List Int} {i : Nat} (h : p.length ≤ i) : coef p i = 0 := by
  simp [coef, List.getD, List.getElem?_eq_none h]
theorem coef_lt {p : List Int} {i : Nat} (h : i < p.length) : coef p i = p[i] := by
  simp [coef, h]
theorem coef_get {p : List Int} {i : Nat} {x : Int} (h : p[i]? = some x) : coef p i = x := by
  simp [coef, List.getD, h]
theorem get_coef {p : List Int} {i : Nat} (h : i < p.length) : p[i]? = some (coef p i) := by
  rw [List.getElem?_eq_getElem h, coef_lt h]
theorem coef_mem {p : List Int} {i : Nat} (h : i < p.length) : coef p i ∈ p := by
  rw [coef_lt h]
  exact List.getElem_mem h
theorem coef_take (p : List Int) (n i : Nat) : coef (p.take n) i = if i < n then coef p i else 0 := by
  unfold coef
  simp only [List.getD_eq_getElem?_getD, List.getElem?_take]
  split <;> simp
theorem coef_append (p q : List Int) (i : Nat) : coef (p ++ q) i = if i < p.length then coef p i else coef q (i - p.length) := by
  unfold coef
  simp only [List.getD_eq_getElem?_getD]
  split
  · rename_i h
    rw [List.getElem?_append_left h]
  · rename_i h
    rw [List.getElem?_append_right (by omega)]
theorem coef_set {p : List Int} {j : Nat} (hj : j < p.length) (v : Int) (i : Nat) : coef (p.set j v) i = if i = j then v else coef p i := by
  unfold coef
  simp only [List.getD_eq_getElem?_getD, List.getElem?_set]
  by_cases h : j = i
  · subst h
    simp [hj]
  · rw [if_neg h, if_neg (fun e => h e.symm)]
theorem coef_map {f : Int → Int} (h0 : f 0 = 0) (p : List Int) (i : Nat) : coef (p.map f) i = f (coef p i) := by
  unfold coef
  simp only [List.getD_eq_getElem?_getD, List.getElem?_map]
  cases p[i]? with
  | none => simp [h0]
  | some x => simp
theorem coef_rep (n i : Nat) : coef (List.replicate n 0) i = 0 := by
  unfold coef
  simp only [List.getD_eq_getElem?_getD, List.getElem?_replicate]
  split <;> simp
theorem coef_range (f : Nat → Int) (n i : Nat) : coef ((List.range n).map f) i = if i < n then f i else 0 := by
  unfold coef
  simp only [List.getD_eq_getElem?_getD, List.getElem?_map]
  by_cases h : i < n
  · rw [if_pos h, List.getElem?_range h]
    rfl
  · rw [if_neg h, List.getElem?_eq_none (by rw [List.length_range]; omega)]
    rfl

/-! ### rows -/
def IsRow (p : List Int) : Prop := p.getLast? ≠ some 0
theorem isRow_nil : IsRow [] := by simp [IsRow]
theorem isRow_iff {p : List Int} : IsRow p ↔ (p = [] ∨ coef p (p.length - 1) ≠ 0) := by
  unfold IsRow coef
  rw [List.getLast?_eq_getElem?]
  by_cases h : p = []
  · subst h
    simp
  · have hl : p.length - 1 < p.length := by
      have := List.length_pos_iff.mpr h
      omega
    simp [List.getD, hl, h]
theorem row_ext : ∀ {p q : List Int}, IsRow p → IsRow q → (∀ i, coef p i = coef q i) → p = q := by
  intro p q hp hq h
  have hlen : p.length = q.length := by
    rcases Nat.lt_trichotomy p.length q.length with c | c | c
    · exfalso
      rcases isRow_iff.mp hq with e | e
      · subst e
        simp at c
      · apply e
        rw [← h, coef_ge (by omega)]
    · exact c
    · exfalso
      rcases isRow_iff.mp hp with e | e
      · subst e
        simp at c
      · apply e
        rw [h, coef_ge (by omega)]
  apply List.ext_getElem hlen
  intro i h1 h2
  rw [← coef_lt h1, ← coef_lt h2, h]
def trim : List Int → List Int
  | [] => []
  | a :: p => if a = 0 ∧ trim p = [] then [] else a :: trim p
theorem coef_trim : ∀ (p : List Int) (i : Nat), coef (trim p) i = coef p i
  | [], _ => rfl
  | a :: p, i => by
    unfold trim
    split
    · rename_i h
      cases i with
      | zero => rw [coef_nil, coef_cons_zero, h.1]
      | succ i =>
        rw [coef_cons_succ, ← coef_trim p i, h.2, coef_nil, coef_nil]
    · cases i with
      | zero => rw [coef_cons_zero, coef_cons_zero]
      | succ i => rw [coef_cons_succ, coef_cons_succ, coef_trim p i]
theorem trim_row : ∀ p : List Int, IsRow (trim p)
  | [] => isRow_nil
  | a :: p => by
    unfold trim
    split
    · exact isRow_nil
    · rename_i h
      have ih := trim_row p
      unfold IsRow at ih ⊢
      cases e : trim p with
      | nil =>
        rw [List.getLast?_singleton]
        intro z
        exact h ⟨Option.some.inj z, e⟩
      | cons b r =>
        rw [e] at ih
        rw [List.getLast?_cons_cons]
        exact ih
theorem trim_eq {p q : List Int} (hq : IsRow q) (h : ∀ i, coef p i = coef q i) : trim p = q := row_ext (trim_row p) hq fun i => by rw [coef_trim, h]
theorem trim_congr {p q : List Int} (h : ∀ i, coef p i = coef q i) : trim p = trim q := row_ext (trim_row p) (trim_row q) fun i => by rw [coef_trim, coef_trim, h]
theorem trim_id {p : List Int} (h : IsRow p) : trim p = p := trim_eq h fun _ => rfl
theorem trim_len : ∀ p : List Int, (trim p).length ≤ p.length
  | [] => Nat.le_refl _
  | a :: p => by
    unfold trim
    split
    · exact Nat.zero_le _
    · have := trim_len p
      simp only [List.length_cons]
      omega
/-- cutting at the last that is not zero -/
theorem take_trim {p : List Int} {s : Nat} (hs : s ≤ p.length) (h0 : ∀ i, s ≤ i → coef p i = 0) (h1 : s = 0 ∨ coef p (s - 1) ≠ 0) : p.take s = trim p := by
  symm
  apply trim_eq
  · rw [isRow_iff]
    rcases h1 with e | e
    · left
      rw [e]
      simp
    · by_cases hz : s = 0
      · left
        rw [hz]
        simp
      · right
        rw [List.length_take, Nat.min_eq_left hs, coef_take, if_pos (by omega)]
        exact e
  · intro i
    rw [coef_take]
    split
    · rfl
    · exact h0 i (by omega)
theorem trim_mem {p : List Int} {x : Int} : x ∈ trim p → x ∈ p := by
  induction p with
  | nil => exact id
  | cons a p ih =>
    unfold trim
    split
    · intro h
      simp at h
    · intro h
      rcases List.mem_cons.mp h with e | h
      · rw [e]
        exact List.mem_cons_self ..
      · exact List.mem_cons_of_mem _ (ih h)

/-! ### sum, product -/
def padd : List Int → List Int → List Int
  | [], q => q
  | a :: p, [] => a :: p
  | a :: p, b :: q => (a + b) :: padd p q
theorem coef_padd : ∀ (p q : List Int) (i : Nat), coef (padd p q) i = coef p i + coef q i
  | [], q, i => by rw [coef_nil, Int.zero_add]; rfl
  | a :: p, [], i => by rw [coef_nil, Int.add_zero]; rfl
  | a :: p, b :: q, 0 => by
    show coef ((a + b) :: padd p q) 0 = _
    rw [coef_cons_zero, coef_cons_zero, coef_cons_zero]
  | a :: p, b :: q, i + 1 => by
    show coef ((a + b) :: padd p q) (i + 1) = _
    rw [coef_cons_succ, coef_cons_succ, coef_cons_succ, coef_padd p q i]
theorem padd_len : ∀ p q : List Int, (padd p q).length = max p.length q.length
  | [], q => by simp [padd]
  | a :: p, [] => by simp [padd]
  | a :: p, b :: q => by
    show (padd p q).length + 1 = _
    rw [padd_len p q]
    simp only [List.length_cons]
    omega
def pscale (n : Int) (p : List Int) : List Int := p.map (n * ·)
theorem coef_pscale (n : Int) (p : List Int) (i : Nat) : coef (pscale n p) i = n * coef p i := coef_map (f := (n * ·)) (Int.mul_zero n) p i
def pmul : List Int → List Int → List Int
  | [], _ => []
  | a :: p, q => padd (pscale a q) (0 :: pmul p q)
theorem coef_pmul_cons (a : Int) (p q : List Int) (k : Nat) : coef (pmul (a :: p) q) k = a * coef q k + (if k = 0 then 0 else coef (pmul p q) (k - 1)) := by
  show coef (padd (pscale a q) (0 :: pmul p q)) k = _
  rw [coef_padd, coef_pscale]
  cases k with
  | zero => rw [coef_cons_zero, if_pos rfl]
  | succ k => rw [coef_cons_succ, if_neg (Nat.succ_ne_zero k), Nat.add_sub_cancel]
theorem coef_pmul_app (a : Int) (q : List Int) : ∀ (p : List Int) (k : Nat), coef (pmul (p ++ [a]) q) k = coef (pmul p q) k + (if p.length ≤ k then a * coef q (k - p.length) else 0)
  | [], k => by
    rw [List.nil_append, coef_pmul_cons]
    have e : ∀ j, coef (pmul [] q) j = 0 := fun j => coef_nil j
    rw [e, e, List.length_nil, if_pos (Nat.zero_le k), Nat.sub_zero]
    split <;> omega
  | b :: p, k => by
    rw [List.cons_append, coef_pmul_cons, coef_pmul_cons]
    cases k with
    | zero =>
      rw [if_pos rfl, if_pos rfl, if_neg (by simp)]
      omega
    | succ k =>
      rw [if_neg (Nat.succ_ne_zero k), if_neg (Nat.succ_ne_zero k), Nat.add_sub_cancel, coef_pmul_app a q p k, List.length_cons]
      by_cases h : p.length ≤ k
      · rw [if_pos h, if_pos (by omega), Nat.succ_sub_succ]
        omega
      · rw [if_neg h, if_neg (by omega)]
        omega
theorem coef_pmul_take {p q : List Int} {i : Nat} (hi : i < p.length) (k : Nat) : coef (pmul (p.take (i + 1)) q) k = coef (pmul (p.take i) q) k + (if i ≤ k then coef p i * coef q (k - i) else 0) := by
  have e : p.take (i + 1) = p.take i ++ [coef p i] := by
    rw [List.take_add_one, get_coef hi]
    rfl
  rw [e, coef_pmul_app, List.length_take, Nat.min_eq_left (Nat.le_of_lt hi)]
theorem coef_pmul_set (q : List Int) (v : Int) : ∀ {p : List Int} {j : Nat} (hj : j < p.length) (h0 : coef p j = 0) (k : Nat), coef (pmul (p.set j v) q) k = coef (pmul p q) k + (if j ≤ k then v * coef q (k - j) else 0)
  | [], j, hj, _, _ => absurd hj (by simp)
  | a :: p, 0, _, h0, k => by
    rw [coef_cons_zero] at h0
    subst h0
    rw [List.set_cons_zero, coef_pmul_cons, coef_pmul_cons, if_pos (Nat.zero_le k), Nat.sub_zero]
    omega
  | a :: p, j + 1, hj, h0, k => by
    rw [coef_cons_succ] at h0
    rw [List.set_cons_succ, coef_pmul_cons, coef_pmul_cons]
    have hj' : j < p.length := by
      simp only [List.length_cons] at hj
      omega
    cases k with
    | zero => rw [if_pos rfl, if_pos rfl, if_neg (by omega)]; omega
    | succ k =>
      rw [if_neg (Nat.succ_ne_zero k), if_neg (Nat.succ_ne_zero k), Nat.add_sub_cancel, coef_pmul_set q v hj' h0 k]
      by_cases h : j ≤ k
      · rw [if_pos h, if_pos (by omega), Nat.succ_sub_succ]
        omega
      · rw [if_neg h, if_neg (by omega)]
        omega
theorem coef_pmul_ge : ∀ (p q : List Int) (k : Nat), p.length + q.length ≤ k + 1 → coef (pmul p q) k = 0
  | [], q, k, _ => coef_nil k
  | a :: p, q, k, h => by
    simp only [List.length_cons] at h
    rw [coef_pmul_cons]
    rw [coef_ge (p := q) (by omega)]
    cases k with
    | zero => simp
    | succ k =>
      rw [if_neg (Nat.succ_ne_zero k), Nat.add_sub_cancel, coef_pmul_ge p q k (by omega)]
      omega
theorem coef_pmul_top : ∀ (p q : List Int), p ≠ [] → q ≠ [] → coef (pmul p q) (p.length + q.length - 2) = coef p (p.length - 1) * coef q (q.length - 1)
  | [], _, h, _ => absurd rfl h
  | [a], q, _, hq => by
    have := List.length_pos_iff.mpr hq
    have e : ∀ j, coef (pmul [] q) j = 0 := fun j => coef_nil j
    have ea : [a].length + q.length - 2 = q.length - 1 := by
      simp only [List.length_cons, List.length_nil]
      omega
    rw [ea, coef_pmul_cons, e]
    show a * coef q (q.length - 1) + _ = coef [a] 0 * coef q (q.length - 1)
    rw [coef_cons_zero]
    split <;> omega
  | a :: b :: p, q, _, hq => by
    have hl := List.length_pos_iff.mpr hq
    have ih := coef_pmul_top (b :: p) q (List.cons_ne_nil _ _) hq
    rw [coef_pmul_cons]
    simp only [List.length_cons] at ih ⊢
    rw [coef_ge (p := q) (by omega), if_neg (by omega), show p.length + 1 + 1 + q.length - 2 - 1 = p.length + 1 + q.length - 2 by omega, ih, show p.length + 1 + 1 - 1 = (p.length + 1 - 1) + 1 by omega, coef_cons_succ]
    omega
theorem coef_pmul_nil : ∀ (p : List Int) (k : Nat), coef (pmul p []) k = 0
  | [], k => coef_nil k
  | a :: p, k => by
    rw [coef_pmul_cons, coef_nil]
    split
    · omega
    · rw [coef_pmul_nil p]
      omega
theorem pmul_row {p q : List Int} (hp : IsRow p) (hq : IsRow q) (h1 : p ≠ []) (h2 : q ≠ []) {l : List Int} (hl : l.length = p.length + q.length - 1) (hc : ∀ k, coef l k = coef (pmul p q) k) : IsRow l := by
  have l1 := List.length_pos_iff.mpr h1
  have l2 := List.length_pos_iff.mpr h2
  rw [isRow_iff]
  right
  rw [hl, hc, show p.length + q.length - 1 - 1 = p.length + q.length - 2 by omega, coef_pmul_top p q h1 h2]
  have a := (isRow_iff.mp hp).resolve_left h1
  have b := (isRow_iff.mp hq).resolve_left h2
  exact Int.mul_ne_zero a b
end My
/-! Euclid in few turns -/
namespace My
/-- the i-th turn of Euclid's rule, b below 2 ^ L at first -/
def Euc (L i x y : Nat) : Prop := (i % 2 = 0 → y * 2 ^ (i / 2) < 2 ^ L) ∧ (i % 2 = 1 → x * 2 ^ (i / 2) < 2 ^ L ∧ y < x)
theorem Euc.step {L i x y : Nat} (h : Euc L i x y) (hy : y ≠ 0) : Euc L (i + 1) y (x % y) := by
  have hlt : x % y < y := Nat.mod_lt _ (by omega)
  refine ⟨fun e => ?_, fun e => ?_⟩
  · obtain ⟨h1, h2⟩ := h.2 (by omega)
    have e2 : (i + 1) / 2 = i / 2 + 1 := by omega
    rw [e2, Nat.pow_succ]
    have hm : x % y * 2 ≤ x := by
      have a := Nat.div_add_mod x y
      have b : 1 ≤ x / y := (Nat.le_div_iff_mul_le (by omega)).mpr (by omega)
      have c : y * 1 ≤ y * (x / y) := Nat.mul_le_mul_left y b
      omega
    have hp : 0 < 2 ^ (i / 2) := Nat.two_pow_pos _
    calc x % y * (2 ^ (i / 2) * 2) = x % y * 2 * 2 ^ (i / 2) := by rw [Nat.mul_assoc, Nat.mul_comm 2]
      _ ≤ x * 2 ^ (i / 2) := Nat.mul_le_mul_right _ hm
      _ < 2 ^ L := h1
  · have h1 := h.1 (by omega)
    have e2 : (i + 1) / 2 = i / 2 := by omega
    rw [e2]
    exact ⟨h1, hlt⟩
theorem Euc.zero {L x y : Nat} (h : Euc L (2 * L + 4) x y) : y = 0 := by
  have h1 := h.1 (by omega)
  have e : (2 * L + 4) / 2 = L + 2 := by omega
  rw [e] at h1
  by_cases c : y = 0
  · exact c
  · exfalso
    have a : 1 * 2 ^ (L + 2) ≤ y * 2 ^ (L + 2) := Nat.mul_le_mul_right _ (by omega)
    have b : 2 ^ L ≤ 2 ^ (L + 2) := Nat.pow_le_pow_right (by decide) (by omega)
    omega
end My
namespace My
open PySem PySem.Spec PyProof.Rows L2
/-! ### isinstance -/
section
variable {K : PySem.W.Frag} {H : Hp} {Q : VK} {a : Addr} {xs : List V} {i : Int}
theorem w_isiII (q : Q (.bl true) H) : rIsi K [.int i, .ty "int"] H Q := ⟨_, _, _, _, _, rfl, .ty _, .base (.int i), kit_ty (by decide +kernel), q⟩
theorem w_isiIB (q : Q (.bl false) H) : rIsi K [.int i, .ty "bool"] H Q := ⟨_, _, _, _, _, rfl, .ty _, .base (.int i), kit_ty (by decide +kernel), q⟩
theorem tyT (h : SqT K H a xs) : TyX K H (.ref a) (.type "tuple") := by
  rcases h with (h | ⟨o, h⟩) | ⟨o, its, n, hk, hc, _⟩
  · exact .base (.tup h)
  · exact .fTuple h
  · exact .kTuple hk hc
theorem w_isiTT (h : SqT K H a xs) (q : Q (.bl true) H) : rIsi K [.ref a, .ty "tuple"] H Q := ⟨_, _, _, _, _, rfl, .ty _, tyT h, kit_ty (by decide +kernel), q⟩
theorem w_all {bs : List Bool} (h : SqL K H a (bs.map V.bl)) (q : Q (.bl (bs.all id)) H) : rAll K [.ref a] H Q := ⟨a, bs, rfl, h, q⟩
end
theorem ite_ndf {A B P : Prop} [Decidable P] (p : P) (h : B) : if (!decide P) = true then A else B := by rw [if_neg (by simp [p])]; exact h
theorem ite_ndt {A B P : Prop} [Decidable P] (p : ¬ P) (h : A) : if (!decide P) = true then A else B := by rw [if_pos (by simp [p])]; exact h
theorem abs_pow_lt {a : Int} {b s : Nat} (h : a.natAbs < 2 ^ b) : (a ^ s).natAbs < 2 ^ (b * s + 1) := by
  have e : (a ^ s).natAbs = a.natAbs ^ s := Int.natAbs_pow a s
  rw [e]
  have h1 : a.natAbs ^ s ≤ (2 ^ b) ^ s := Nat.pow_le_pow_left (Nat.le_of_lt h) s
  rw [← Nat.pow_mul] at h1
  exact Nat.lt_of_le_of_lt h1 (Nat.pow_lt_pow_right (by decide) (Nat.lt_succ_self _))
theorem abs_mono {x : Int} {a b : Nat} (hx : x.natAbs < 2 ^ a) (h : a ≤ b) : x.natAbs < 2 ^ b := Nat.lt_of_lt_of_le hx (Nat.pow_le_pow_right (by decide) h)
def RetT (K : PySem.W.Frag) (H : Hp) (Q : VK) (p : List Int) : Prop := ∀ a H', Ch [] H H' → SqT K H' a (ivs p) → Q (.ref a) H'
theorem eqv_ints : ∀ p r : List Int, PyData.eqvAll (p.map PyData.int) (r.map PyData.int) = decide (p = r)
  | [], [] => by simp [PyData.eqvAll]
  | [], y :: r => by simp [PyData.eqvAll]
  | x :: p, [] => by simp [PyData.eqvAll]
  | x :: p, y :: r => by
    have ih := eqv_ints p r
    show (PyData.eqv (.int x) (.int y) && PyData.eqvAll (p.map PyData.int) (r.map PyData.int)) = _
    rw [ih]
    show ((x == y) && decide (p = r)) = _
    by_cases h : x = y
    · subst h
      simp
    · simp [h]
theorem dp_ivs {K : PySem.W.Frag} {H : Hp} : ∀ p : List Int, DpAll K H (ivs p) (p.map PyData.int)
  | [] => .nil
  | x :: p => .cons (.int x) (dp_ivs p)
theorem lay_ints : ∀ p : List Int, PyData.canLayAll0 (p.map PyData.int) = true
  | [] => rfl
  | x :: p => by
    show (PyData.canLay0 (.int x) && PyData.canLayAll0 (p.map PyData.int)) = true
    rw [lay_ints p]
    rfl
theorem depth_ints : ∀ p : List Int, PyData.depthAll (p.map PyData.int) = 0
  | [] => rfl
  | x :: p => by
    show max (PyData.depth (.int x)) (PyData.depthAll (p.map PyData.int)) = 0
    rw [depth_ints p]
    rfl
theorem shaped_ints (p : List Int) : SeqAt.shaped (.tuple (p.map PyData.int)) = true := by
  show (PyData.canLayAll0 (p.map PyData.int) && decide (PyData.depthAll (p.map PyData.int) + 1 ≤ 64)) = true
  rw [lay_ints, depth_ints]
  rfl
theorem shapedL_ints (p : List Int) : SeqAt.shaped (.list (p.map PyData.int)) = true := by
  show (PyData.canLayAll0 (p.map PyData.int) && decide (PyData.depthAll (p.map PyData.int) + 1 ≤ 64)) = true
  rw [lay_ints, depth_ints]
  rfl
theorem w_eqT {K : PySem.W.Frag} {H : Hp} {Q : VK} {a b : Addr} {p r : List Int} (h1 : SqT K H a (ivs p)) (h2 : SqT K H b (ivs r)) (q : Q (.bl (decide (p = r))) H) : rEqD K (.ref a) (.ref b) H Q :=
  ⟨_, _, .tup h1 (dp_ivs p), .tup h2 (dp_ivs r), shaped_ints p, shaped_ints r, by
    show Q (.bl (PyData.eqvAll (p.map PyData.int) (r.map PyData.int))) H
    rw [eqv_ints]
    exact q⟩
theorem w_neT {K : PySem.W.Frag} {H : Hp} {Q : VK} {a b : Addr} {p r : List Int} (h1 : SqT K H a (ivs p)) (h2 : SqT K H b (ivs r)) (q : Q (.bl (!decide (p = r))) H) : rNeD K (.ref a) (.ref b) H Q :=
  ⟨_, _, .tup h1 (dp_ivs p), .tup h2 (dp_ivs r), shaped_ints p, shaped_ints r, by
    show Q (.bl (!PyData.eqvAll (p.map PyData.int) (r.map PyData.int))) H
    rw [eqv_ints]
    exact q⟩
theorem w_eqL {K : PySem.W.Frag} {H : Hp} {Q : VK} {a b : Addr} {p r : List Int} (h1 : SqL K H a (ivs p)) (h2 : SqL K H b (ivs r)) (q : Q (.bl (decide (p = r))) H) : rEqD K (.ref a) (.ref b) H Q :=
  ⟨_, _, .lst h1 (dp_ivs p), .lst h2 (dp_ivs r), shapedL_ints p, shapedL_ints r, by
    show Q (.bl (PyData.eqvAll (p.map PyData.int) (r.map PyData.int))) H
    rw [eqv_ints]
    exact q⟩
end My
open My PySem PySem.Spec PyProof.Rows L2
local macro_rules | `(tactic| walk_at "w1") => `(tactic| first
  | (with_reducible first
    | refine w_seq ?_
    | refine w_asg ?_
    | refine w_asgG ?_
    | refine w_ret ?_
    | refine w_drop ?_
    | refine w_if ?_
    | refine w_next ?_
    | refine w_break ?_
    | refine w_continue ?_
    | refine w_par ?_
    | refine w_two ?_
    | refine w_c ?_
    | refine w_op ?_
    | refine w_un ?_
    | refine w_I0 ?_
    | refine w_U ?_
    | refine w_eqI ?_
    | refine w_neI ?_
    | refine w_test ?_
    | refine w_B ?_
    | refine w_bl ?_
    | refine w_int ?_
    | refine w_N ?_
    | refine w_and ?_
    | refine w_or ?_
    | refine w_not ?_
    | refine w_andV ?_
    | refine w_orV ?_
    | refine w_notV ?_
    | refine w_ifE ?_
    | refine w_nil ?_
    | refine w_cons ?_
    | refine w_cb ?_
    | refine w_call ?_
    | refine w_tup ?_
    | refine w_lst ?_
    | refine w_abs ?_
    | refine w_max2 ?_
    | refine w_min2 ?_
    | refine w_int1 ?_
    | refine w_int1b ?_
    | refine w_gcd ?_
    | refine w_sl ?_
    | refine w_nopart ?_
    | refine w_part ?_
    | refine w_gname ?_
    | refine w_gsub ?_
    | refine w_gcons ?_
    | refine w_gnil ?_
    | refine w_bm ?_
    | refine w_for ?_
    | refine w_lc ?_
    | refine w_iL ?_
    | refine w_iT ?_
    | refine w_iR1 ?_
    | refine w_iR2 ?_
    | refine w_iE ?_
    | refine w_iV ?_
    | refine w_iR3 ?_
    | refine w_tru ?_
    | refine w_bits ?_)
  | ((with_reducible refine' w_var ?e ?_); (case e => with_unfolding_all rfl))
  | (with_reducible refine w_mod (by decide) ?_)
  | (with_reducible refine w_div (by decide) (by decide) ?_)
  | (with_reducible refine w_pow (by decide) (by decide) (by decide) ?_)
  | (with_reducible refine w_mulr (by decide) ?_)
  | (with_reducible refine w_mull (by decide) ?_)
  | ((with_reducible refine' w_ixL ?h ?e ?_); (case h => exact SqL.of (by assumption)); (case e => with_unfolding_all rfl))
  | ((with_reducible refine' w_ixT ?h ?e ?_); (case h => assumption); (case e => with_unfolding_all rfl)))
local macro_rules | `(tactic| walk_at "go") => `(tactic| repeat (walk_at "w1"))
local macro_rules | `(tactic| walk_at "hf") => `(tactic| first
  | assumption
  | (refine SqT.of ?_; walk_at "hf")
  | (refine SqL.of ?_; assumption)
  | (refine Ch.sqT (by assumption) ?_; walk_at "hf")
  | (refine Ch.at0 (by assumption) ?_; walk_at "hf")
  | (refine Ch.sq0 (by assumption) ?_; walk_at "hf")
  | (refine Ch.at1 (by assumption) (by first | assumption | exact Ne.symm (by assumption) | exact ne_of_none (by assumption) (by assumption) | exact Ne.symm (ne_of_none (by assumption) (by assumption))) ?_; walk_at "hf"))
local macro_rules | `(tactic| walk_at "sz") => `(tactic| first
  | assumption
  | (refine sz_le ?_; simp only [List.length_map, List.length_append, List.length_cons, List.length_nil, List.length_replicate, List.length_take, List.length_drop, List.length_range, List.length_set]; omega)
  | (refine sz_lt ?_; simp only [List.length_map, List.length_append, List.length_cons, List.length_nil, List.length_replicate, List.length_take, List.length_drop, List.length_range, List.length_set]; omega))

namespace My
open PySem PySem.Spec PyProof.Rows L2
def topS (i : Nat) : Stmt := PySem.Challenge.pw_cellspire_k00_bezout_and_fractions.main.body.getD i (.Pass ⟨0, 0, 0, 0⟩)
structure Txt (mg : Str → Option Value) : Prop where
  z_len : mg "len" = none
  z_tuple : mg "tuple" = none
  z_int : mg "int" = none
  z_bool : mg "bool" = none
  z_range : mg "range" = none
  z_isinstance : mg "isinstance" = none
  z_abs : mg "abs" = none
  z_min : mg "min" = none
/-- the numbers n, d of a fraction at a -/
abbrev Fr (K : PySem.W.Frag) (H : Hp) (a : Addr) (n d : Int) : Prop := SqT K H a (ivs [n, d])
/-- the box that the law draws from -/
def RB (H : Hp) (b : Addr) : Prop := ∃ x y z t : Int, H b = some (.lst [.int x, .int y, .int z, .int t])
theorem RB.mono {H H' : Hp} {b : Addr} (B : RB H b) (h : Ch [] H H') : RB H' b := by
  obtain ⟨x, y, z, t, h1⟩ := B
  exact ⟨x, y, z, t, h.at0 h1⟩
theorem RB.mono1 {H H' : Hp} {b c : Addr} (B : RB H b) (n : b ≠ c) (h : Ch [c] H H') : RB H' b := by
  obtain ⟨x, y, z, t, h1⟩ := B
  exact ⟨x, y, z, t, h.at1 n h1⟩
theorem RB.ne {H : Hp} {b c : Addr} (B : RB H b) (hc : H c = none) : b ≠ c := by
  obtain ⟨x, y, z, t, h1⟩ := B
  exact ne_of_none h1 hc
theorem w_chain {r r' : R2} {ta tb tc : TE} {σ : L2.St} {H : Hp} {Q : VK} (h : ta σ H fun x H1 => tb σ H1 fun y H2 => r x y H2 fun z H3 => ∃ k, z = .bl k ∧ (if k = true then tc σ H3 fun w' H4 => r' y w' H4 Q else Q (.bl false) H3)) : tChain r r' ta tb tc σ H Q := h
section
variable {P : Program} {w : World} {K : PySem.W.Frag} {mg : Str → Option Value} {base : Heap}
/-! ### signs, comparing, floor -/
def sgn (i : Int) : Int := if i < 0 then -1 else if i > 0 then 1 else 0
abbrev s_sign_of : Stmt := topS 31
theorem sc_sign_of : FnScope ["n"] ["n"] (defScope s_sign_of) := ⟨rfl, rfl, rfl, by decide +kernel, rfl, by decide +kernel, by decide +kernel⟩
def sp_sign_of : Sp := fun vs H Q _ => ∃ i : Int, vs = [.int i] ∧ Q (.int (sgn i)) H
theorem c_sign_of {f : Addr} {fd : FuncData} (F : DefF K mg "sign_of" s_sign_of ["n"] f fd) : Cal P w K mg base 1 "sign_of" sp_sign_of := by
  refine cal_of F sc_sign_of (fun vs H Q E h => by obtain ⟨_, rfl, _⟩ := h; rfl) (fun cdv A outer s H vs Q E hr h => ?_)
  obtain ⟨i, rfl, q⟩ := h
  refine ⟨_, (pss_cons (ps_if (pt_cmpR op_lt (pv 0) pe_int (nomark _)) (pss_one (ps_ret (pe_un un_neg pe_int))) pss_nil)
 (pss_cons (ps_if (pt_cmpR op_gt (pv 0) pe_int (nomark _)) (pss_one (ps_ret pe_int)) pss_nil)
 (pss_one (ps_ret pe_int)))), ?_⟩
  refine w_start (σ := [some _]) rfl ?_
  unfold sgn at q
  walk_at "go"
  refine ite_d (fun h => ?_) (fun h => ?_)
  · rw [if_pos h] at q
    walk_at "go"
    exact q
  · rw [if_neg h] at q
    walk_at "go"
    refine ite_d (fun h2 => ?_) (fun h2 => ?_)
    · rw [if_pos h2] at q
      exact q
    · rw [if_neg h2] at q
      exact q
abbrev s_compare : Stmt := topS 38
theorem sc_compare : FnScope ["a", "b"] ["a", "b"] (defScope s_compare) := ⟨rfl, rfl, rfl, by decide +kernel, rfl, by decide +kernel, by decide +kernel⟩
def sp_compare (K : PySem.W.Frag) : Sp := fun vs H Q _ => ∃ (a b : Addr) (n d m e : Int) (z : Nat), vs = [.ref a, .ref b] ∧ Fr K H a n d ∧ Fr K H b m e ∧ n.natAbs < 2 ^ z ∧ d.natAbs < 2 ^ z ∧ m.natAbs < 2 ^ z ∧ e.natAbs < 2 ^ z ∧ z ≤ 60000000 ∧ Q (.int (sgn (n * e - m * d))) H
theorem c_compare (C_sign_of : Cal P w K mg base 1 "sign_of" sp_sign_of) {f : Addr} {fd : FuncData} (F : DefF K mg "compare" s_compare ["a", "b"] f fd) : Cal P w K mg base 2 "compare" (sp_compare K) := by
  refine cal_of F sc_compare (fun vs H Q E h => by obtain ⟨_, _, _, _, _, _, _, rfl, _⟩ := h; rfl) (fun cdv A outer s H vs Q E hr h => ?_)
  obtain ⟨a, b, n, d, m, e, z, rfl, ha, hb, h1, h2, h3, h4, hz, q⟩ := h
  refine ⟨_, (pss_one (ps_ret (pe_cc C_sign_of hr (by decide) (by rfl) (pa_cons (pe_op op_sub (pe_op op_mulG (pe_ix (k_ixT (K := K) rfl) (pv 0) pe_int (fun _ _ => rfl)) (pe_ix (k_ixT (K := K) rfl) (pv 1) pe_int (fun _ _ => rfl))) (pe_op op_mulG (pe_ix (k_ixT (K := K) rfl) (pv 1) pe_int (fun _ _ => rfl)) (pe_ix (k_ixT (K := K) rfl) (pv 0) pe_int (fun _ _ => rfl)))) pa_nil)))), ?_⟩
  refine w_start (σ := [some _, some _]) rfl ?_
  walk_at "go"
  refine w_I (mul_ok h1 h4 (by omega)) ?_
  walk_at "go"
  refine w_I (mul_ok h3 h2 (by omega)) ?_
  walk_at "go"
  exact ⟨_, rfl, q⟩
abbrev s_floor : Stmt := topS 39
theorem sc_floor : FnScope ["a"] ["a"] (defScope s_floor) := ⟨rfl, rfl, rfl, by decide +kernel, rfl, by decide +kernel, by decide +kernel⟩
def sp_floor (K : PySem.W.Frag) : Sp := fun vs H Q _ => ∃ (a : Addr) (n d : Int) (z : Nat), vs = [.ref a] ∧ Fr K H a n d ∧ d ≠ 0 ∧ d.natAbs < 2 ^ z ∧ z ≤ 9000 ∧ Q (.int (n.fdiv d)) H
theorem c_floor {f : Addr} {fd : FuncData} (F : DefF K mg "floor" s_floor ["a"] f fd) : Cal P w K mg base 1 "floor" (sp_floor K) := by
  refine cal_of F sc_floor (fun vs H Q E h => by obtain ⟨_, _, _, _, rfl, _⟩ := h; rfl) (fun cdv A outer s H vs Q E hr h => ?_)
  obtain ⟨a, n, d, z, rfl, ha, hd, h2, hz, q⟩ := h
  refine ⟨_, (pss_one (ps_ret (pe_op op_fdivG (pe_ix (k_ixT (K := K) rfl) (pv 0) pe_int (fun _ _ => rfl)) (pe_ix (k_ixT (K := K) rfl) (pv 0) pe_int (fun _ _ => rfl))))), ?_⟩
  refine w_start (σ := [some _]) rfl ?_
  walk_at "go"
  refine w_I (div_ok hd h2 hz) ?_
  exact q
/-! ### the law's checks -/
abbrev s__law_is_integer : Stmt := topS 41
theorem sc__law_is_integer : FnScope ["told"] ["told"] (defScope s__law_is_integer) := ⟨rfl, rfl, rfl, by decide +kernel, rfl, by decide +kernel, by decide +kernel⟩
def sp__law_is_integer : Sp := fun vs H Q _ => ∃ i : Int, vs = [.int i] ∧ Q (.bl true) H
theorem c__law_is_integer (T : Txt mg) {f : Addr} {fd : FuncData} (F : DefF K mg "_law_is_integer" s__law_is_integer ["told"] f fd) : Cal P w K mg base 1 "_law_is_integer" sp__law_is_integer := by
  refine cal_of F sc__law_is_integer (fun vs H Q E h => by obtain ⟨_, rfl, _⟩ := h; rfl) (fun cdv A outer s H vs Q E hr h => ?_)
  obtain ⟨i, rfl, q⟩ := h
  refine ⟨_, (pss_one (ps_ret (pe_and (pe_callB (k_isi (K := K) rfl) (by rfl) T.z_isinstance (by decide +kernel) (pa_cons (pv 0) (pa_cons (pe_bltn (by rfl) T.z_int (by decide +kernel) (v := .ty "int") rfl) pa_nil))) (pe_one (pe_not (pe_callB (k_isi (K := K) rfl) (by rfl) T.z_isinstance (by decide +kernel) (pa_cons (pv 0) (pa_cons (pe_bltn (by rfl) T.z_bool (by decide +kernel) (v := .ty "bool") rfl) pa_nil)))))))), ?_⟩
  refine w_start (σ := [some _]) rfl ?_
  walk_at "go"
  refine w_isiII ?_
  walk_at "go"
  rw [if_pos rfl]
  walk_at "go"
  refine w_isiIB ?_
  exact ⟨_, rfl, q⟩
theorem h__law_is_integer (T : Txt mg) {f : Addr} {fd : FuncData} (F : DefF K mg "_law_is_integer" s__law_is_integer ["told"] f fd) : CalH P w K mg base 1 "_law_is_integer" sp__law_is_integer := by
  refine cal_ofH F sc__law_is_integer (fun vs H Q E h => by obtain ⟨_, rfl, _⟩ := h; rfl) (fun cdv A outer s H vs Q E p hot hr h => ?_)
  obtain ⟨i, rfl, q⟩ := h
  have hc : L2H.HotC (L2H.cxH (L2.CX P w) P w K mg base ["told"] "_law_is_integer" (defScope s__law_is_integer) f cdv A outer s H E p).nox := ⟨p, ⟨hot.1, hot.2⟩, List.mem_singleton.mpr rfl⟩
  refine ⟨_, (pss_one (ps_ret (pe_and (pe_callB (k_isi (K := K) rfl) (by rfl) T.z_isinstance (by decide +kernel) (pa_cons (pv 0) (pa_cons (pe_bltn (by rfl) T.z_int (by decide +kernel) (v := .ty "int") rfl) pa_nil))) (pe_one (pe_not (pe_callB (k_isi (K := K) rfl) (by rfl) T.z_isinstance (by decide +kernel) (pa_cons (pv 0) (pa_cons (pe_bltn (by rfl) T.z_bool (by decide +kernel) (v := .ty "bool") rfl) pa_nil)))))))), ?_⟩
  refine w_start (σ := [some _]) rfl ?_
  walk_at "go"
  refine w_isiII ?_
  walk_at "go"
  rw [if_pos rfl]
  walk_at "go"
  refine w_isiIB ?_
  exact ⟨_, rfl, q⟩
abbrev s__law_same : Stmt := topS 42
theorem sc__law_same : FnScope ["told", "due", "k"] ["told", "due"] (defScope s__law_same) := ⟨rfl, rfl, rfl, by decide +kernel, rfl, by decide +kernel, by decide +kernel⟩
def sp__law_same (K : PySem.W.Frag) : Sp := fun vs H Q _ => ∃ (a b : Addr) (p r : List Int), vs = [.ref a, .ref b] ∧ SqT K H a (ivs p) ∧ SqT K H b (ivs r) ∧ p.length ≤ 1000 ∧ r.length ≤ 1000 ∧ Q (.bl (decide (p = r))) H
theorem same_first {p r : List Int} (h : p.length = r.length) (e : p.take r.length = r.take r.length) : p = r := by
  rw [List.take_length, ← h, List.take_length] at e
  exact e
theorem take_step {p r : List Int} {i : Nat} (hp : i < p.length) (hr : i < r.length) (e : p.take i = r.take i) (c : coef p i = coef r i) : p.take (i + 1) = r.take (i + 1) := by
  rw [List.take_add_one, List.take_add_one, e, get_coef hp, get_coef hr, c]
theorem c__law_same (T : Txt mg) (C__law_is_integer : Cal P w K mg base 1 "_law_is_integer" sp__law_is_integer) {f : Addr} {fd : FuncData} (F : DefF K mg "_law_same" s__law_same ["told", "due"] f fd) : Cal P w K mg base 2 "_law_same" (sp__law_same K) := by
  refine cal_of F sc__law_same (fun vs H Q E h => by obtain ⟨_, _, _, _, rfl, _⟩ := h; rfl) (fun cdv A outer s H vs Q E hr h => ?_)
  obtain ⟨a, b, p, r, rfl, hp, hq, lp, lr, q⟩ := h
  refine ⟨_, (pss_cons (ps_if (PW.pt (pw_or (pt_not (pt_val (pe_callB (k_isi (K := K) rfl) (by rfl) T.z_isinstance (by decide +kernel) (pa_cons (pv 0) (pa_cons (pe_bltn (by rfl) T.z_tuple (by decide +kernel) (v := .ty "tuple") rfl) pa_nil))))) (pw_or1 (pt_cmpR op_ne (pe_callB (k_len (K := K) rfl) (by rfl) T.z_len PySem.boot_len (pa_cons (pv 0) pa_nil)) (pe_callB (k_len (K := K) rfl) (by rfl) T.z_len PySem.boot_len (pa_cons (pv 1) pa_nil)) (nomark _))))) (pss_one (ps_ret pe_bl)) pss_nil)
 (pss_cons (ps_for PassesOwn.never rfl (pi_range1 (by rfl) T.z_range (pa_cons (pe_callB (k_len (K := K) rfl) (by rfl) T.z_len PySem.boot_len (pa_cons (pv 1) pa_nil)) pa_nil)) (pg_name (i := 2) sc__law_same.nd rfl (Or.inl rfl)) (pss_one (ps_if (PW.pt (pw_or (pt_not (pt_val (pe_cc C__law_is_integer hr (by decide) (by rfl) (pa_cons (pe_ix (k_ixT (K := K) rfl) (pv 0) (pv 2) (fun _ _ => rfl)) pa_nil)))) (pw_or1 (pt_cmpR op_ne (pe_ix (k_ixT (K := K) rfl) (pv 0) (pv 2) (fun _ _ => rfl)) (pe_ix (k_ixT (K := K) rfl) (pv 1) (pv 2) (fun _ _ => rfl)) (nomark _))))) (pss_one (ps_ret pe_bl)) pss_nil)))
 (pss_one (ps_ret pe_bl)))), ?_⟩
  refine w_start (σ := [some _, some _, none]) rfl ?_
  walk_at "go"
  refine w_isiTT hp ?_
  walk_at "go"
  rw [if_neg (by decide)]
  walk_at "go"
  refine w_lenTi hp ?_
  walk_at "go"
  refine w_lenTi hq ?_
  walk_at "go"
  refine ite_nd (fun h0 => ?_) (fun h0 => ?_)
  · have e : p ≠ r := fun e => h0 (by rw [e])
    rw [decide_eq_false e] at q
    exact q
  have h1 : p.length = r.length := by omega
  walk_at "go"
  refine w_lenTi hq ?_
  walk_at "go"
  refine w_iR1r (by omega) (by omega) ?_
  refine for_R (n := r.length) (fun i σ H' => H' = H ∧ p.take i = r.take i ∧ ∃ z, σ = [some (.ref a), some (.ref b), z]) ⟨rfl, rfl, none, rfl⟩ ?_ ?_
  · rintro i σ H' hi ⟨rfl, e, z, rfl⟩
    walk_at "go"
    refine w_ixTi (k := i) hp (by omega) (get_coef (by omega)) ?_
    walk_at "go"
    refine ⟨_, rfl, ?_⟩
    walk_at "go"
    rw [if_neg (by decide)]
    walk_at "go"
    refine w_ixTi (k := i) hp (by omega) (get_coef (by omega)) ?_
    walk_at "go"
    refine w_ixTi (k := i) hq (by omega) (get_coef hi) ?_
    walk_at "go"
    refine ite_nd (fun h2 => ?_) (fun h2 => ?_)
    · have e : p ≠ r := fun e => h2 (by rw [e])
      rw [decide_eq_false e] at q
      exact q
    · exact ⟨rfl, take_step (by omega) hi e h2, _, rfl⟩
  · rintro σ H' ⟨rfl, e, z, rfl⟩
    rw [decide_eq_true (same_first h1 e)] at q
    exact q
theorem h__law_same (T : Txt mg) (H__law_is_integer : CalH P w K mg base 1 "_law_is_integer" sp__law_is_integer) {f : Addr} {fd : FuncData} (F : DefF K mg "_law_same" s__law_same ["told", "due"] f fd) : CalH P w K mg base 2 "_law_same" (sp__law_same K) := by
  refine cal_ofH F sc__law_same (fun vs H Q E h => by obtain ⟨_, _, _, _, rfl, _⟩ := h; rfl) (fun cdv A outer s H vs Q E pp hot hr h => ?_)
  obtain ⟨a, b, p, r, rfl, hp, hq, lp, lr, q⟩ := h
  have hc : L2H.HotC (L2H.cxH (L2.CX P w) P w K mg base ["told", "due", "k"] "_law_same" (defScope s__law_same) f cdv A outer s H E pp).nox := ⟨pp, ⟨hot.1, hot.2⟩, List.mem_singleton.mpr rfl⟩
  refine ⟨_, (pss_cons (ps_if (PW.pt (pw_or (pt_not (pt_val (pe_callB (k_isi (K := K) rfl) (by rfl) T.z_isinstance (by decide +kernel) (pa_cons (pv 0) (pa_cons (pe_bltn (by rfl) T.z_tuple (by decide +kernel) (v := .ty "tuple") rfl) pa_nil))))) (pw_or1 (pt_cmpR op_ne (pe_callB (k_len (K := K) rfl) (by rfl) T.z_len PySem.boot_len (pa_cons (pv 0) pa_nil)) (pe_callB (k_len (K := K) rfl) (by rfl) T.z_len PySem.boot_len (pa_cons (pv 1) pa_nil)) (nomark _))))) (pss_one (ps_ret pe_bl)) pss_nil)
 (pss_cons (L2H.ps_forH PassesOwn.never hc (L2H.pi_range1H (by rfl) T.z_range (pa_cons (pe_callB (k_len (K := K) rfl) (by rfl) T.z_len PySem.boot_len (pa_cons (pv 1) pa_nil)) pa_nil)) (pg_name (i := 2) sc__law_same.nd rfl (Or.inl rfl)) (pss_one (ps_if (PW.pt (pw_or (pt_not (pt_val (pe_ccH H__law_is_integer hr (by decide) hc (by rfl) (pa_cons (pe_ix (k_ixT (K := K) rfl) (pv 0) (pv 2) (fun _ _ => rfl)) pa_nil)))) (pw_or1 (pt_cmpR op_ne (pe_ix (k_ixT (K := K) rfl) (pv 0) (pv 2) (fun _ _ => rfl)) (pe_ix (k_ixT (K := K) rfl) (pv 1) (pv 2) (fun _ _ => rfl)) (nomark _))))) (pss_one (ps_ret pe_bl)) pss_nil)))
 (pss_one (ps_ret pe_bl)))), ?_⟩
  refine w_start (σ := [some _, some _, none]) rfl ?_
  walk_at "go"
  refine w_isiTT hp ?_
  walk_at "go"
  rw [if_neg (by decide)]
  walk_at "go"
  refine w_lenTi hp ?_
  walk_at "go"
  refine w_lenTi hq ?_
  walk_at "go"
  refine ite_nd (fun h0 => ?_) (fun h0 => ?_)
  · have e : p ≠ r := fun e => h0 (by rw [e])
    rw [decide_eq_false e] at q
    exact q
  have h1 : p.length = r.length := by omega
  walk_at "go"
  refine w_lenTi hq ?_
  walk_at "go"
  refine w_iR1r (by omega) (by omega) ?_
  refine for_R (n := r.length) (fun i σ H' => H' = H ∧ p.take i = r.take i ∧ ∃ z, σ = [some (.ref a), some (.ref b), z]) ⟨rfl, rfl, none, rfl⟩ ?_ ?_
  · rintro i σ H' hi ⟨rfl, e, z, rfl⟩
    walk_at "go"
    refine w_callS ?_
    walk_at "go"
    refine w_ixTi (k := i) hp (by omega) (get_coef (by omega)) ?_
    walk_at "go"
    refine ⟨_, rfl, ?_⟩
    walk_at "go"
    rw [if_neg (by decide)]
    walk_at "go"
    refine w_ixTi (k := i) hp (by omega) (get_coef (by omega)) ?_
    walk_at "go"
    refine w_ixTi (k := i) hq (by omega) (get_coef hi) ?_
    walk_at "go"
    refine ite_nd (fun h2 => ?_) (fun h2 => ?_)
    · have e : p ≠ r := fun e => h2 (by rw [e])
      rw [decide_eq_false e] at q
      exact q
    · exact ⟨rfl, take_step (by omega) hi e h2, _, rfl⟩
  · rintro σ H' ⟨rfl, e, z, rfl⟩
    rw [decide_eq_true (same_first h1 e)] at q
    exact q
end
end My
namespace My
open PySem PySem.Spec PyProof.Rows L2
section
variable {P : Program} {w : World} {K : PySem.W.Frag} {mg : Str → Option Value} {base : Heap}
/-! ### the box -/
abbrev s__law_cell : Stmt := topS 43
theorem sc__law_cell : FnScope ["script", "k", "total", "cell"] ["script", "k"] (defScope s__law_cell) := ⟨rfl, rfl, rfl, by decide +kernel, rfl, by decide +kernel, by decide +kernel⟩
def sp__law_cell (K : PySem.W.Frag) : Sp := fun vs H Q _ => ∃ (a : Addr) (ns : List Int) (k : Int), vs = [.ref a, .int k] ∧ SqL K H a (ivs ns) ∧ 0 ≤ k ∧ ns.length < 100000 ∧ ∀ (z : Int) H', Ch [] H H' → Q (.int z) H'
theorem w_chop {H : Hp} {Q : VK} {a : Addr} {xs : List V} {lo hi : Option Int} (h : SqL K H a xs) (q : ∀ p H', H p = none → Ch [] H H' → H' p = some (.lst (cutV xs lo hi)) → Q (.ref p) H') : rSlL K (.ref a) lo hi H Q := w_slL h q
theorem cut_ints {ns : List Int} {lo hi : Option Int} : ∃ ms : List Int, cutV (ivs ns) lo hi = ivs ms ∧ ms.length ≤ ns.length := by
  unfold cutV
  exact ⟨((ns.drop _).take _), by rw [ivs, ivs, List.map_take, List.map_drop], by rw [List.length_take, List.length_drop]; omega⟩
theorem c__law_cell (T : Txt mg) {f : Addr} {fd : FuncData} (F : DefF K mg "_law_cell" s__law_cell ["script", "k"] f fd) : Cal P w K mg base 1 "_law_cell" (sp__law_cell K) := by
  refine cal_of F sc__law_cell (fun vs H Q E h => by obtain ⟨_, _, _, rfl, _⟩ := h; rfl) (fun cdv A outer s H vs Q E hr h => ?_)
  obtain ⟨a, ns, k, rfl, hs, hk, hl, q⟩ := h
  refine ⟨_, (pss_cons (ps_if (pt_cmpR op_lt (pv 1) (pe_callB (k_len (K := K) rfl) (by rfl) T.z_len PySem.boot_len (pa_cons (pv 0) pa_nil)) (nomark _)) (pss_one (ps_ret (pe_callTy cb_int (by rfl) T.z_int (by decide +kernel) (pa_cons (pe_ix (k_ixL (K := K) rfl) (pv 0) (pv 1) (fun _ _ => rfl)) pa_nil)))) pss_nil)
 (pss_cons (ps_set (i := 2) sc__law_cell.nd rfl (Or.inl rfl) pe_int)
 (pss_cons (ps_for PassesOwn.never rfl (k_piL (K := K) rfl (pe_slice (k_slL (K := K) rfl) (pv 0) po_none (po_some pe_int))) (pg_name (i := 3) sc__law_cell.nd rfl (Or.inl rfl)) (pss_one (ps_set (i := 2) sc__law_cell.nd rfl (Or.inl rfl) (pe_op op_mod (pe_callTy cb_int (by rfl) T.z_int (by decide +kernel) (pa_cons (pe_op op_add (pe_op op_mulG (pv 2) pe_int) (pe_callTy cb_int (by rfl) T.z_int (by decide +kernel) (pa_cons (pv 3) pa_nil))) pa_nil)) pe_int))))
 (pss_one (ps_ret (pe_op op_mod (pe_callTy cb_int (by rfl) T.z_int (by decide +kernel) (pa_cons (pe_op op_add (pe_op op_add (pe_op op_mulG (pv 2) pe_int) (pe_op op_mulG (pv 1) pe_int)) pe_int) pa_nil)) pe_int)))))), ?_⟩
  refine w_start (σ := [some _, some _, none, none]) rfl ?_
  walk_at "go"
  refine w_lenL hs ?_
  rw [List.length_map]
  walk_at "go"
  refine ite_d (fun h0 => ?_) (fun h0 => ?_)
  · walk_at "go"
    refine w_ixL hs (atI_int (i := k.toNat) (by omega) (get_coef (by omega))) ?_
    walk_at "go"
    exact q _ _ .refl
  · walk_at "go"
    obtain ⟨ms, em, lm⟩ := cut_ints (ns := ns) (lo := none) (hi := some 63)
    refine w_slL hs fun s1 H1 n1 c1 h1 => ?_
    rw [em] at h1
    walk_at "go"
    refine w_iLr (.of h1) ?_
    have wk : Walk (Itl K s1) ms.length (fun H => SqL K H s1 (ivs ms)) (YAt (ivs ms)) := by
      have q := walk_list (K := K) (a := s1) (xs := ivs ms)
      rw [List.length_map] at q
      exact q
    refine for_w wk (fun i σ H' => H' = H1 ∧ ∃ (t : Int) (z : Option V), σ = [some (.ref a), some (.int k), some (.int t), z]) ⟨rfl, 0, none, rfl⟩ (fun i σ H' _ h => by rw [h.1]; exact .of h1) ?_ ?_
    · rintro i σ H2 x H3 hi ⟨rfl, t, z, rfl⟩ y
      obtain ⟨e, hx⟩ := y
      subst e
      obtain ⟨v, hv, rfl⟩ := ivs_get_inv hx
      walk_at "go"
      exact ⟨rfl, _, _, rfl⟩
    · rintro σ H2 ⟨rfl, t, z, rfl⟩
      walk_at "go"
      exact q _ _ c1
abbrev s__law_box : Stmt := topS 44
theorem sc__law_box : FnScope ["script", "k", "cell"] ["script", "k"] (defScope s__law_box) := ⟨rfl, rfl, rfl, by decide +kernel, rfl, by decide +kernel, by decide +kernel⟩
def sp__law_box (K : PySem.W.Frag) : Sp := fun vs H Q _ => ∃ (a : Addr) (ns : List Int) (k : Int), vs = [.ref a, .int k] ∧ SqL K H a (ivs ns) ∧ 0 ≤ k ∧ ns.length < 100000 ∧ ∀ b H', H b = none → Ch [] H H' → RB H' b → Q (.ref b) H'
theorem c__law_box (T : Txt mg) (C__law_cell : Cal P w K mg base 1 "_law_cell" (sp__law_cell K)) {f : Addr} {fd : FuncData} (F : DefF K mg "_law_box" s__law_box ["script", "k"] f fd) : Cal P w K mg base 2 "_law_box" (sp__law_box K) := by
  refine cal_of F sc__law_box (fun vs H Q E h => by obtain ⟨_, _, _, rfl, _⟩ := h; rfl) (fun cdv A outer s H vs Q E hr h => ?_)
  obtain ⟨a, ns, k, rfl, hs, hk, hl, q⟩ := h
  refine ⟨_, (pss_cons (ps_set (i := 2) sc__law_box.nd rfl (Or.inl rfl) (pe_cc C__law_cell hr (by decide) (by rfl) (pa_cons (pv 0) (pa_cons (pv 1) pa_nil))))
 (pss_one (ps_ret (pe_lst (pa_cons (pe_op op_mod (pe_callTy cb_int (by rfl) T.z_int (by decide +kernel) (pa_cons (pv 2) pa_nil)) (pe_op op_powG (pe_op op_pow pe_int pe_int) pe_int)) (pa_cons (pe_callTy cb_int (by rfl) T.z_int (by decide +kernel) (pa_cons (pe_cmpR op_ge (pv 2) (pe_op op_pow pe_int pe_int) (nomark _)) pa_nil)) (pa_cons (pe_op op_mod (pe_callTy cb_int (by rfl) T.z_int (by decide +kernel) (pa_cons (pv 2) pa_nil)) pe_int) (pa_cons pe_int pa_nil)))))))), ?_⟩
  refine w_start (σ := [some _, some _, none]) rfl ?_
  walk_at "go"
  refine ⟨a, ns, k, rfl, hs, hk, hl, fun z H1 c1 => ?_⟩
  walk_at "go"
  refine w_I (show CPowG _ _ from ⟨by decide, by decide +kernel⟩) ?_
  refine w_mod (by decide +kernel) ?_
  walk_at "go"
  refine w_newL (show 4 ≤ sizeLine by decide) fun b H2 n2 c2 h2 => ?_
  exact q b H2 (c1.free n2) (c1.trans c2) ⟨_, _, _, _, h2⟩
abbrev s__law_take : Stmt := topS 45
theorem sc__law_take : FnScope ["box", "many", "digit", "one", "two"] ["box", "many"] (defScope s__law_take) := ⟨rfl, rfl, rfl, by decide +kernel, rfl, by decide +kernel, by decide +kernel⟩
def sp__law_take : Sp := fun vs H Q _ => ∃ (b : Addr) (m : Int), vs = [.ref b, .int m] ∧ RB H b ∧ 0 < m ∧ m.natAbs < 2 ^ 9000 ∧ ∀ (r : Int) H', 0 ≤ r → r < m → Ch [b] H H' → RB H' b → Q (.int r) H'
theorem c__law_take (T : Txt mg) {f : Addr} {fd : FuncData} (F : DefF K mg "_law_take" s__law_take ["box", "many"] f fd) : Cal P w K mg base 1 "_law_take" sp__law_take := by
  refine cal_of F sc__law_take (fun vs H Q E h => by obtain ⟨_, _, rfl, _⟩ := h; rfl) (fun cdv A outer s H vs Q E hr h => ?_)
  obtain ⟨b, m, rfl, ⟨x, y, z, t, hb⟩, m0, mb, q⟩ := h
  refine ⟨_, (pss_cons (ps_asg (pe_op op_add (pe_ix (k_ixL (K := K) rfl) (pv 0) pe_int (fun _ _ => rfl)) pe_int) (pg_sub (pv 0) pe_int set_list))
 (pss_cons (ps_if (PW.pt (pw_and (pt_cmpR op_eq (pe_ix (k_ixL (K := K) rfl) (pv 0) pe_int (fun _ _ => rfl)) pe_int (nomark _)) (pw_and1 (pt_cmpR op_gt (pe_ix (k_ixL (K := K) rfl) (pv 0) pe_int (fun _ _ => rfl)) pe_int (nomark _))))) (pss_cons (ps_set (i := 2) sc__law_take.nd rfl (Or.inl rfl) (pe_op op_mod (pe_callTy cb_int (by rfl) T.z_int (by decide +kernel) (pa_cons (pe_ix (k_ixL (K := K) rfl) (pv 0) pe_int (fun _ _ => rfl)) pa_nil)) (pv 1)))
 (pss_cons (ps_asg (pe_op op_fdivG (pe_ix (k_ixL (K := K) rfl) (pv 0) pe_int (fun _ _ => rfl)) (pv 1)) (pg_sub (pv 0) pe_int set_list))
 (pss_one (ps_ret (pv 2))))) pss_nil)
 (pss_cons (ps_set (i := 3) sc__law_take.nd rfl (Or.inl rfl) (pe_op op_mod (pe_callTy cb_int (by rfl) T.z_int (by decide +kernel) (pa_cons (pe_op op_add (pe_op op_add (pe_op op_mulG (pe_ix (k_ixL (K := K) rfl) (pv 0) pe_int (fun _ _ => rfl)) pe_int) (pe_op op_mulG (pe_ix (k_ixL (K := K) rfl) (pv 0) pe_int (fun _ _ => rfl)) pe_int)) pe_int) pa_nil)) pe_int))
 (pss_cons (ps_set (i := 4) sc__law_take.nd rfl (Or.inl rfl) (pe_op op_mod (pe_callTy cb_int (by rfl) T.z_int (by decide +kernel) (pa_cons (pe_op op_add (pe_op op_add (pe_op op_mulG (pv 3) (pv 3)) (pe_op op_mulG (pv 3) pe_int)) (pe_op op_mulG (pe_ix (k_ixL (K := K) rfl) (pv 0) pe_int (fun _ _ => rfl)) pe_int)) pa_nil)) pe_int))
 (pss_one (ps_ret (pe_op op_mod (pe_callTy cb_int (by rfl) T.z_int (by decide +kernel) (pa_cons (pe_op op_fdiv (pv 4) pe_int) pa_nil)) (pv 1)))))))), ?_⟩
  refine w_start (σ := [some _, some _, none, none, none]) rfl ?_
  walk_at "go"
  refine w_setL (k := 3) hb rfl (show 3 < 4 by decide) fun H1 c1 h1 => ?_
  have h1 : H1 b = some (.lst [.int x, .int y, .int z, .int (t + 1)]) := h1
  have rest : ∀ r : Int, 0 ≤ r % m ∧ r % m < m := fun r => ⟨Int.emod_nonneg _ (by omega), Int.emod_lt_of_pos _ m0⟩
  have fin : ∀ (u v : Int), Q (.int (u % m)) H1 := fun u v => q _ _ (rest u).1 (rest u).2 c1 ⟨_, _, _, _, h1⟩
  have mul1 : ∀ u : Int, IntMulOk (u % 2147483647) (u % 2147483647) := fun u => mul_ok_l (by
    have a1 := Int.emod_nonneg u (show (2147483647 : Int) ≠ 0 by decide)
    have a2 := Int.emod_lt_of_pos u (show (0 : Int) < 2147483647 by decide)
    omega)
  walk_at "go"
  refine ite_d (fun h0 => ?_) (fun h0 => ?_)
  · walk_at "go"
    refine ite_d (fun h2 => ?_) (fun h2 => ?_)
    · walk_at "go"
      refine w_mod m0 ?_
      walk_at "go"
      refine w_I (div_ok (by omega) mb (by decide)) ?_
      walk_at "go"
      refine w_setL (k := 0) h1 rfl (show 0 < 4 by decide) fun H2 c2 h2 => ?_
      walk_at "go"
      exact q _ _ (rest x).1 (rest x).2 (c1.trans c2) ⟨_, _, _, _, h2⟩
    · walk_at "go"
      refine w_I (mul1 _) ?_
      walk_at "go"
      refine w_mod m0 ?_
      exact fin _ 0
  · rw [if_neg (by decide)]
    walk_at "go"
    refine w_I (mul1 _) ?_
    walk_at "go"
    refine w_mod m0 ?_
    exact fin _ 0
abbrev s__law_turned : Stmt := topS 46
theorem sc__law_turned : FnScope ["box", "number"] ["box", "number"] (defScope s__law_turned) := ⟨rfl, rfl, rfl, by decide +kernel, rfl, by decide +kernel, by decide +kernel⟩
def sp__law_turned : Sp := fun vs H Q _ => ∃ (b : Addr) (n : Int), vs = [.ref b, .int n] ∧ RB H b ∧ ∀ (r : Int) H', r = n ∨ r = -n → Ch [b] H H' → RB H' b → Q (.int r) H'
theorem c__law_turned (C__law_take : Cal P w K mg base 1 "_law_take" sp__law_take) {f : Addr} {fd : FuncData} (F : DefF K mg "_law_turned" s__law_turned ["box", "number"] f fd) : Cal P w K mg base 2 "_law_turned" sp__law_turned := by
  refine cal_of F sc__law_turned (fun vs H Q E h => by obtain ⟨_, _, rfl, _⟩ := h; rfl) (fun cdv A outer s H vs Q E hr h => ?_)
  obtain ⟨b, n, rfl, B, q⟩ := h
  refine ⟨_, (pss_cons (ps_if (pt_cmpR op_eq (pe_cc C__law_take hr (by decide) (by rfl) (pa_cons (pv 0) (pa_cons pe_int pa_nil))) pe_int (nomark _)) (pss_one (ps_ret (pe_un un_neg (pv 1)))) pss_nil)
 (pss_one (ps_ret (pv 1)))), ?_⟩
  refine w_start (σ := [some _, some _]) rfl ?_
  walk_at "go"
  refine ⟨b, 2, rfl, B, by decide, by decide +kernel, fun r H1 r0 r1 c1 B1 => ?_⟩
  walk_at "go"
  refine ite_d (fun h => ?_) (fun h => ?_)
  · walk_at "go"
    exact q _ _ (.inr rfl) c1 B1
  · walk_at "go"
    exact q _ _ (.inl rfl) c1 B1
abbrev s__law_power : Stmt := topS 47
theorem sc__law_power : FnScope ["root", "count", "number", "turn"] ["root", "count"] (defScope s__law_power) := ⟨rfl, rfl, rfl, by decide +kernel, rfl, by decide +kernel, by decide +kernel⟩
def sp__law_power : Sp := fun vs H Q _ => ∃ (r : Int) (n : Int) (z : Nat), vs = [.int r, .int n] ∧ r.natAbs < 2 ^ z ∧ z ≤ 60 ∧ 0 ≤ n ∧ n ≤ 1000 ∧ Q (.int (r ^ n.toNat)) H
theorem c__law_power (T : Txt mg) {f : Addr} {fd : FuncData} (F : DefF K mg "_law_power" s__law_power ["root", "count"] f fd) : Cal P w K mg base 1 "_law_power" sp__law_power := by
  refine cal_of F sc__law_power (fun vs H Q E h => by obtain ⟨_, _, _, rfl, _⟩ := h; rfl) (fun cdv A outer s H vs Q E hr h => ?_)
  obtain ⟨r, n, z, rfl, hr', hz, n0, n1, q⟩ := h
  refine ⟨_, (pss_cons (ps_set (i := 2) sc__law_power.nd rfl (Or.inl rfl) pe_int)
 (pss_cons (ps_for PassesOwn.never rfl (pi_range1 (by rfl) T.z_range (pa_cons (pv 1) pa_nil)) (pg_name (i := 3) sc__law_power.nd rfl (Or.inl rfl)) (pss_one (ps_set (i := 2) sc__law_power.nd rfl (Or.inl rfl) (pe_op op_mulG (pv 2) (pv 0)))))
 (pss_one (ps_ret (pv 2))))), ?_⟩
  refine w_start (σ := [some _, some _, none, none]) rfl ?_
  walk_at "go"
  refine w_iR1r (by omega) (by omega) ?_
  refine for_R (n := n.toNat) (fun i σ H' => H' = H ∧ ∃ y, σ = [some (.int r), some (.int n), some (.int (r ^ i)), y]) ⟨rfl, none, by rw [Int.pow_zero]; rfl⟩ ?_ ?_
  · rintro i σ H' hi ⟨rfl, y, rfl⟩
    walk_at "go"
    refine w_I (mul_ok_r (Nat.lt_of_lt_of_le hr' (Nat.pow_le_pow_right (by decide) (by omega)))) ?_
    exact ⟨rfl, _, by rw [Int.pow_succ]; rfl⟩
  · rintro σ H' ⟨rfl, y, rfl⟩
    exact ⟨_, rfl, q⟩
abbrev s__law_limbs : Stmt := topS 48
theorem sc__law_limbs : FnScope ["box", "count", "number", "turn"] ["box", "count"] (defScope s__law_limbs) := ⟨rfl, rfl, rfl, by decide +kernel, rfl, by decide +kernel, by decide +kernel⟩
def sp__law_limbs : Sp := fun vs H Q _ => ∃ (b : Addr) (n : Int), vs = [.ref b, .int n] ∧ RB H b ∧ 0 ≤ n ∧ n ≤ 20 ∧ ∀ (r : Int) H', 0 ≤ r → r < 100000 ^ n.toNat → Ch [b] H H' → RB H' b → Q (.int r) H'
theorem c__law_limbs (T : Txt mg) (C__law_take : Cal P w K mg base 1 "_law_take" sp__law_take) {f : Addr} {fd : FuncData} (F : DefF K mg "_law_limbs" s__law_limbs ["box", "count"] f fd) : Cal P w K mg base 2 "_law_limbs" sp__law_limbs := by
  refine cal_of F sc__law_limbs (fun vs H Q E h => by obtain ⟨_, _, rfl, _⟩ := h; rfl) (fun cdv A outer s H vs Q E hr h => ?_)
  obtain ⟨b, n, rfl, B, n0, n1, q⟩ := h
  refine ⟨_, (pss_cons (ps_set (i := 2) sc__law_limbs.nd rfl (Or.inl rfl) pe_int)
 (pss_cons (ps_for PassesOwn.never rfl (pi_range1 (by rfl) T.z_range (pa_cons (pv 1) pa_nil)) (pg_name (i := 3) sc__law_limbs.nd rfl (Or.inl rfl)) (pss_one (ps_set (i := 2) sc__law_limbs.nd rfl (Or.inl rfl) (pe_op op_add (pe_op op_mulG (pv 2) pe_int) (pe_cc C__law_take hr (by decide) (by rfl) (pa_cons (pv 0) (pa_cons pe_int pa_nil)))))))
 (pss_one (ps_ret (pv 2))))), ?_⟩
  refine w_start (σ := [some _, some _, none, none]) rfl ?_
  walk_at "go"
  refine w_iR1r (by omega) (by omega) ?_
  refine for_R (n := n.toNat) (fun i σ H' => Ch [b] H H' ∧ RB H' b ∧ ∃ (v : Int) (y : Option V), σ = [some (.ref b), some (.int n), some (.int v), y] ∧ 0 ≤ v ∧ v < 100000 ^ i) ⟨.refl, B, 0, none, rfl, by decide, by decide⟩ ?_ ?_
  · rintro i σ H' hi ⟨c1, B1, v, y, rfl, v0, v1⟩
    walk_at "go"
    refine ⟨b, 100000, rfl, B1, by decide, by decide +kernel, fun r H2 r0 r1 c2 B2 => ?_⟩
    walk_at "go"
    refine ⟨c1.trans c2, B2, _, _, rfl, by omega, ?_⟩
    rw [Int.pow_succ]
    omega
  · rintro σ H' ⟨c1, B1, v, y, rfl, v0, v1⟩
    walk_at "go"
    exact q _ _ v0 v1 c1 B1
end
end My
namespace My
open PySem PySem.Spec PyProof.Rows L2
/-! ### lowest terms, in plain numbers -/
structure Low (t b n d : Int) : Prop where
  pos : 0 < d
  cop : Nat.gcd n.natAbs d.natAbs = 1
  eq : n * b = d * t
  ln : n.natAbs ≤ t.natAbs
  ld : d.natAbs ≤ b.natAbs
theorem low_of {t b s : Int} {g : Nat} (hs : s = 1 ∨ s = -1) (hb : 0 < s * b) (hg : g = Nat.gcd t.natAbs b.natAbs) : Low t b ((s * t).fdiv g) ((s * b).fdiv g) := by
  have b0 : b ≠ 0 := fun e => by rw [e, Int.mul_zero] at hb; omega
  have g0 : 0 < g := by
    rw [hg]
    exact Nat.gcd_pos_of_pos_right _ (by omega)
  have dt : (g : Int) ∣ t := Int.ofNat_dvd_left.mpr (by rw [hg]; exact Nat.gcd_dvd_left _ _)
  have db : (g : Int) ∣ b := Int.ofNat_dvd_left.mpr (by rw [hg]; exact Nat.gcd_dvd_right _ _)
  obtain ⟨t', et⟩ := dt
  obtain ⟨b', eb⟩ := db
  have gne : (g : Int) ≠ 0 := by omega
  have e1 : (s * t).fdiv g = s * t' := by
    rw [et, Int.mul_left_comm]
    exact Int.mul_fdiv_cancel_left _ gne
  have e2 : (s * b).fdiv g = s * b' := by
    rw [eb, Int.mul_left_comm]
    exact Int.mul_fdiv_cancel_left _ gne
  rw [e1, e2]
  have at' : t.natAbs = g * t'.natAbs := by rw [et, Int.natAbs_mul, Int.natAbs_natCast]
  have ab' : b.natAbs = g * b'.natAbs := by rw [eb, Int.natAbs_mul, Int.natAbs_natCast]
  have sa : ∀ x : Int, (s * x).natAbs = x.natAbs := fun x => by
    rcases hs with e | e <;> rw [e] <;> omega
  refine ⟨?_, ?_, ?_, ?_, ?_⟩
  · rw [eb, Int.mul_left_comm] at hb
    by_cases c : 0 < s * b'
    · exact c
    · exfalso
      have := Int.mul_le_mul_of_nonneg_left (show s * b' ≤ 0 by omega) (show (0 : Int) ≤ g by omega)
      rw [Int.mul_zero] at this
      omega
  · rw [sa, sa]
    rw [at', ab', Nat.gcd_mul_left] at hg
    exact Nat.eq_of_mul_eq_mul_left g0 (by omega)
  · rw [et, eb]
    simp only [Int.mul_assoc, Int.mul_left_comm, Int.mul_comm]
  · rw [sa, at']
    exact Nat.le_mul_of_pos_left _ g0
  · rw [sa, ab']
    exact Nat.le_mul_of_pos_left _ g0
/-- what the law's numbers are -/
structure Num (n d : Int) : Prop where
  pos : 0 < d
  cop : Nat.gcd n.natAbs d.natAbs = 1
  bn : n.natAbs < 2 ^ 300
  bd : d.natAbs < 2 ^ 300
theorem Low.num {t b n d : Int} (h : Low t b n d) (ht : t.natAbs < 2 ^ 300) (hb : b.natAbs < 2 ^ 300) : Num n d := ⟨h.pos, h.cop, Nat.lt_of_le_of_lt h.ln ht, Nat.lt_of_le_of_lt h.ld hb⟩
section
variable {P : Program} {w : World} {K : PySem.W.Frag} {mg : Str → Option Value} {base : Heap}
abbrev s__law_gcd : Stmt := topS 50
theorem sc__law_gcd : FnScope ["one", "two", "left", "right", "turn"] ["one", "two"] (defScope s__law_gcd) := ⟨rfl, rfl, rfl, by decide +kernel, rfl, by decide +kernel, by decide +kernel⟩
def sp__law_gcd : Sp := fun vs H Q _ => ∃ (a b : Int), vs = [.int a, .int b] ∧ b.natAbs < 2 ^ 1998 ∧ Q (.int (Nat.gcd a.natAbs b.natAbs : Nat)) H
theorem c__law_gcd (T : Txt mg) {f : Addr} {fd : FuncData} (F : DefF K mg "_law_gcd" s__law_gcd ["one", "two"] f fd) : Cal P w K mg base 1 "_law_gcd" sp__law_gcd := by
  refine cal_of F sc__law_gcd (fun vs H Q E h => by obtain ⟨_, _, rfl, _⟩ := h; rfl) (fun cdv A outer s H vs Q E hr h => ?_)
  obtain ⟨a, b, rfl, hb, q⟩ := h
  refine ⟨_, (pss_cons (ps_set (i := 2) sc__law_gcd.nd rfl (Or.inl rfl) (pe_callB cb_abs (by rfl) T.z_abs (by decide +kernel) (pa_cons (pv 0) pa_nil)))
 (pss_cons (ps_set (i := 3) sc__law_gcd.nd rfl (Or.inl rfl) (pe_callB cb_abs (by rfl) T.z_abs (by decide +kernel) (pa_cons (pv 1) pa_nil)))
 (pss_cons (ps_for PassesOwn.never rfl (pi_range1 (by rfl) T.z_range (pa_cons pe_int pa_nil)) (pg_name (i := 4) sc__law_gcd.nd rfl (Or.inl rfl)) (pss_cons (ps_if (pt_cmpR op_eq (pv 3) pe_int (nomark _)) (pss_one ps_break) pss_nil)
 (pss_one (ps_par (i := 2) (j := 3) (by rfl) sc__law_gcd.nd rfl rfl (by decide) rfl rfl (pa_cons (pv 3) (pa_cons (pe_op op_mod (pe_callTy cb_int (by rfl) T.z_int (by decide +kernel) (pa_cons (pv 2) pa_nil)) (pv 3)) pa_nil)) (by rfl)))))
 (pss_one (ps_ret (pv 2)))))), ?_⟩
  refine w_start (σ := [some _, some _, none, none, none]) rfl ?_
  walk_at "go"
  refine w_iR1r (by omega) (by omega) ?_
  have done : ∀ (x : Nat) (z : Option V), Nat.gcd x 0 = Nat.gcd a.natAbs b.natAbs → Q (.int x) H := fun x z h => by
    rw [Nat.gcd_zero_right] at h
    rw [h]
    exact q
  refine for_R (n := 4000) (fun i σ H' => H' = H ∧ ∃ (x y : Nat) (z : Option V), σ = [some (.int a), some (.int b), some (.int x), some (.int y), z] ∧ Nat.gcd x y = Nat.gcd a.natAbs b.natAbs ∧ Euc 1998 i x y) ⟨rfl, _, _, none, rfl, rfl, fun _ => by simpa using hb, fun h => by omega⟩ ?_ ?_
  · rintro i σ H' hi ⟨rfl, x, y, z, rfl, hg, eu⟩
    walk_at "go"
    refine ite_d (fun h0 => ?_) (fun h0 => ?_)
    · have hy : y = 0 := by omega
      subst hy
      walk_at "go"
      exact done x z hg
    · walk_at "go"
      refine w_mod (by omega) ?_
      walk_at "go"
      refine ⟨rfl, y, x % y, _, rfl, ?_, eu.step (by omega)⟩
      rw [← hg, Nat.gcd_comm x y, Nat.gcd_rec y x, Nat.gcd_comm]
  · rintro σ H' ⟨rfl, x, y, z, rfl, hg, eu⟩
    have hy := Euc.zero (L := 1998) eu
    subst hy
    walk_at "go"
    exact done x z hg
abbrev s__law_lowest : Stmt := topS 51
theorem sc__law_lowest : FnScope ["top", "bottom", "common"] ["top", "bottom"] (defScope s__law_lowest) := ⟨rfl, rfl, rfl, by decide +kernel, rfl, by decide +kernel, by decide +kernel⟩
def sp__law_lowest (K : PySem.W.Frag) : Sp := fun vs H Q _ => ∃ (t b : Int), vs = [.int t, .int b] ∧ b ≠ 0 ∧ b.natAbs < 2 ^ 1998 ∧ ∀ (a : Addr) (n d : Int) H', Low t b n d → Ch [] H H' → Fr K H' a n d → Q (.ref a) H'
theorem c__law_lowest (C__law_gcd : Cal P w K mg base 1 "_law_gcd" sp__law_gcd) {f : Addr} {fd : FuncData} (F : DefF K mg "_law_lowest" s__law_lowest ["top", "bottom"] f fd) : Cal P w K mg base 2 "_law_lowest" (sp__law_lowest K) := by
  refine cal_of F sc__law_lowest (fun vs H Q E h => by obtain ⟨_, _, rfl, _⟩ := h; rfl) (fun cdv A outer s H vs Q E hr h => ?_)
  obtain ⟨t, b, rfl, b0, hb, q⟩ := h
  refine ⟨_, (pss_cons (ps_set (i := 2) sc__law_lowest.nd rfl (Or.inl rfl) (pe_cc C__law_gcd hr (by decide) (by rfl) (pa_cons (pv 0) (pa_cons (pv 1) pa_nil))))
 (pss_cons (ps_if (pt_cmpR op_lt (pv 1) pe_int (nomark _)) (pss_one (ps_ret (pe_tup (pa_cons (pe_op op_fdivG (pe_un un_neg (pv 0)) (pv 2)) (pa_cons (pe_op op_fdivG (pe_un un_neg (pv 1)) (pv 2)) pa_nil))))) pss_nil)
 (pss_one (ps_ret (pe_tup (pa_cons (pe_op op_fdivG (pv 0) (pv 2)) (pa_cons (pe_op op_fdivG (pv 1) (pv 2)) pa_nil))))))), ?_⟩
  refine w_start (σ := [some _, some _, none]) rfl ?_
  walk_at "go"
  refine ⟨t, b, rfl, hb, ?_⟩
  have g0 : 0 < Nat.gcd t.natAbs b.natAbs := Nat.gcd_pos_of_pos_right _ (by omega)
  have gb : ((Nat.gcd t.natAbs b.natAbs : Nat) : Int).natAbs < 2 ^ 1998 := by
    rw [Int.natAbs_natCast]
    exact Nat.lt_of_le_of_lt (Nat.gcd_le_right _ (by omega)) hb
  generalize hg : Nat.gcd t.natAbs b.natAbs = g at g0 gb
  have dv : ∀ u : Int, CDivG u (g : Int) := fun u => div_ok (by omega) gb (by decide)
  walk_at "go"
  refine ite_d (fun h0 => ?_) (fun h0 => ?_)
  · walk_at "go"
    refine w_I (dv _) ?_
    walk_at "go"
    refine w_I (dv _) ?_
    walk_at "go"
    refine w_newT (show 2 ≤ sizeLine by decide) fun a H1 n1 c1 h1 => ?_
    have l := low_of (t := t) (b := b) (s := -1) (g := g) (.inr rfl) (by omega) hg.symm
    rw [Int.neg_one_mul, Int.neg_one_mul] at l
    exact q a _ _ H1 l c1 (.of h1)
  · walk_at "go"
    refine w_I (dv _) ?_
    walk_at "go"
    refine w_I (dv _) ?_
    walk_at "go"
    refine w_newT (show 2 ≤ sizeLine by decide) fun a H1 n1 c1 h1 => ?_
    have l := low_of (t := t) (b := b) (s := 1) (g := g) (.inl rfl) (by omega) hg.symm
    rw [Int.one_mul, Int.one_mul] at l
    exact q a _ _ H1 l c1 (.of h1)
abbrev s__law_long : Stmt := topS 49
theorem sc__law_long : FnScope ["box", "way", "number"] ["box"] (defScope s__law_long) := ⟨rfl, rfl, rfl, by decide +kernel, rfl, by decide +kernel, by decide +kernel⟩
def sp__law_long : Sp := fun vs H Q _ => ∃ (b : Addr), vs = [.ref b] ∧ RB H b ∧ ∀ (r : Int) H', r.natAbs < 2 ^ 140 → Ch [b] H H' → RB H' b → Q (.int r) H'
theorem pow_le {a : Int} (h1 : 1 ≤ a) {i j : Nat} (h : i ≤ j) : a ^ i ≤ a ^ j := by
  obtain ⟨k, rfl⟩ := Nat.le.dest h
  rw [Int.pow_add]
  have p0 : 0 < a ^ k := Int.pow_pos (by omega)
  have p1 : 1 ≤ a ^ k := by omega
  have p2 : 0 < a ^ i := Int.pow_pos (by omega)
  calc a ^ i = a ^ i * 1 := by rw [Int.mul_one]
    _ ≤ a ^ i * a ^ k := Int.mul_le_mul_of_nonneg_left p1 (by omega)
theorem c__law_long (C__law_take : Cal P w K mg base 1 "_law_take" sp__law_take) (C__law_turned : Cal P w K mg base 2 "_law_turned" sp__law_turned) (C__law_power : Cal P w K mg base 1 "_law_power" sp__law_power) (C__law_limbs : Cal P w K mg base 2 "_law_limbs" sp__law_limbs)
    {f : Addr} {fd : FuncData} (F : DefF K mg "_law_long" s__law_long ["box"] f fd) : Cal P w K mg base 3 "_law_long" sp__law_long := by
  refine cal_of F sc__law_long (fun vs H Q E h => by obtain ⟨_, rfl, _⟩ := h; rfl) (fun cdv A outer s H vs Q E hr h => ?_)
  obtain ⟨b, rfl, B, q⟩ := h
  refine ⟨_, (pss_cons (ps_set (i := 1) sc__law_long.nd rfl (Or.inl rfl) (pe_cc C__law_take hr (by decide) (by rfl) (pa_cons (pv 0) (pa_cons pe_int pa_nil))))
 (Evl.pss_cut (ps_if (pt_cmpR op_lt (pv 1) pe_int (nomark _)) (pss_one (ps_set (i := 2) sc__law_long.nd rfl (Or.inl rfl) (pe_cc C__law_take hr (by decide) (by rfl) (pa_cons (pv 0) (pa_cons pe_int pa_nil))))) (pss_one (ps_if (pt_cmpR op_eq (pv 1) pe_int (nomark _)) (pss_one (ps_set (i := 2) sc__law_long.nd rfl (Or.inl rfl) (pe_cc C__law_take hr (by decide) (by rfl) (pa_cons (pv 0) (pa_cons pe_int pa_nil))))) (pss_one (ps_if (pt_cmpR op_eq (pv 1) pe_int (nomark _)) (pss_one (ps_set (i := 2) sc__law_long.nd rfl (Or.inl rfl) (pe_op op_sub (pe_op op_sub (pe_op op_pow pe_int pe_int) pe_int) (pe_cc C__law_take hr (by decide) (by rfl) (pa_cons (pv 0) (pa_cons pe_int pa_nil)))))) (pss_one (ps_if (pt_cmpR op_eq (pv 1) pe_int (nomark _)) (pss_one (ps_set (i := 2) sc__law_long.nd rfl (Or.inl rfl) (pe_op op_sub (pe_op op_add (pe_cc C__law_power hr (by decide) (by rfl) (pa_cons pe_int (pa_cons (pe_op op_add pe_int (pe_cc C__law_take hr (by decide) (by rfl) (pa_cons (pv 0) (pa_cons pe_int pa_nil)))) pa_nil))) (pe_cc C__law_take hr (by decide) (by rfl) (pa_cons (pv 0) (pa_cons pe_int pa_nil)))) pe_int))) (pss_one (ps_if (pt_cmpR op_eq (pv 1) pe_int (nomark _)) (pss_one (ps_set (i := 2) sc__law_long.nd rfl (Or.inl rfl) (pe_op op_sub (pe_op op_add (pe_cc C__law_power hr (by decide) (by rfl) (pa_cons pe_int (pa_cons (pe_op op_add pe_int (pe_cc C__law_take hr (by decide) (by rfl) (pa_cons (pv 0) (pa_cons pe_int pa_nil)))) pa_nil))) (pe_cc C__law_take hr (by decide) (by rfl) (pa_cons (pv 0) (pa_cons pe_int pa_nil)))) pe_int))) (pss_one (ps_set (i := 2) sc__law_long.nd rfl (Or.inl rfl) (pe_cc C__law_limbs hr (by decide) (by rfl) (pa_cons (pv 0) (pa_cons pe_int pa_nil))))))))))))))
 (pss_one (ps_ret (pe_cc C__law_turned hr (by decide) (by rfl) (pa_cons (pv 0) (pa_cons (pv 2) pa_nil))))))), ?_⟩
  refine w_start (σ := [some _, none, none]) rfl ?_
  walk_at "go"
  refine ⟨b, 7, rfl, B, by decide, by decide +kernel, fun way H1 w0 w1 c1 B1 => ?_⟩
  walk_at "go"
  refine w_cut (M := fun σ' H' => Ch [b] H H' ∧ RB H' b ∧ ∃ v : Int, σ' = [some (.ref b), some (.int way), some (.int v)] ∧ v.natAbs < 2 ^ 140) ?_ ?_
  · walk_at "go"
    refine ite_d (fun h0 => ?_) (fun h0 => ?_)
    · walk_at "go"
      refine ⟨b, 13, rfl, B1, by decide, by decide +kernel, fun r H2 r0 r1 c2 B2 => ⟨c1.trans c2, B2, r, rfl, by omega⟩⟩
    walk_at "go"
    refine ite_d (fun h0 => ?_) (fun h0 => ?_)
    · walk_at "go"
      refine ⟨b, 5000, rfl, B1, by decide, by decide +kernel, fun r H2 r0 r1 c2 B2 => ⟨c1.trans c2, B2, r, rfl, by omega⟩⟩
    walk_at "go"
    refine ite_d (fun h0 => ?_) (fun h0 => ?_)
    · walk_at "go"
      refine ⟨b, 3, rfl, B1, by decide, by decide +kernel, fun r H2 r0 r1 c2 B2 => ?_⟩
      walk_at "go"
      refine ⟨c1.trans c2, B2, _, rfl, ?_⟩
      have e : (10 : Int) ^ Int.toNat 40 = 10000000000000000000000000000000000000000 := by decide +kernel
      rw [e]
      have e2 : (2 : Nat) ^ 140 = 1393796574908163946345982392040522594123776 := by decide +kernel
      omega
    walk_at "go"
    refine ite_d (fun h0 => ?_) (fun h0 => ?_)
    · walk_at "go"
      refine ⟨b, 39, rfl, B1, by decide, by decide +kernel, fun r H2 r0 r1 c2 B2 => ?_⟩
      walk_at "go"
      refine ⟨10, 1 + r, 4, rfl, by decide, by decide, by omega, by omega, ?_⟩
      walk_at "go"
      refine ⟨b, 3, rfl, B2, by decide, by decide +kernel, fun r2 H3 s0 s1 c3 B3 => ?_⟩
      walk_at "go"
      refine ⟨(c1.trans c2).trans c3, B3, _, rfl, ?_⟩
      have l := pow_le (a := 10) (by decide) (show (1 + r).toNat ≤ 39 by omega)
      have p := Int.pow_pos (n := 10) (m := (1 + r).toNat) (by decide)
      have e : (10 : Int) ^ 39 = 1000000000000000000000000000000000000000 := by decide +kernel
      have e2 : (2 : Nat) ^ 140 = 1393796574908163946345982392040522594123776 := by decide +kernel
      omega
    walk_at "go"
    refine ite_d (fun h0 => ?_) (fun h0 => ?_)
    · walk_at "go"
      refine ⟨b, 131, rfl, B1, by decide, by decide +kernel, fun r H2 r0 r1 c2 B2 => ?_⟩
      walk_at "go"
      refine ⟨2, 1 + r, 4, rfl, by decide, by decide, by omega, by omega, ?_⟩
      walk_at "go"
      refine ⟨b, 3, rfl, B2, by decide, by decide +kernel, fun r2 H3 s0 s1 c3 B3 => ?_⟩
      walk_at "go"
      refine ⟨(c1.trans c2).trans c3, B3, _, rfl, ?_⟩
      have l := pow_le (a := 2) (by decide) (show (1 + r).toNat ≤ 131 by omega)
      have p := Int.pow_pos (n := 2) (m := (1 + r).toNat) (by decide)
      have e : (2 : Int) ^ 131 = 2722258935367507707706996859454145691648 := by decide +kernel
      have e2 : (2 : Nat) ^ 140 = 1393796574908163946345982392040522594123776 := by decide +kernel
      omega
    walk_at "go"
    refine ⟨b, 8, rfl, B1, by decide, by decide, fun r H2 r0 r1 c2 B2 => ⟨c1.trans c2, B2, r, rfl, ?_⟩⟩
    have e : (100000 : Int) ^ Int.toNat 8 = 10000000000000000000000000000000000000000 := by decide +kernel
    have e2 : (2 : Nat) ^ 140 = 1393796574908163946345982392040522594123776 := by decide +kernel
    omega
  · rintro σ' H' ⟨c2, B2, v, rfl, hv⟩
    walk_at "go"
    refine ⟨b, v, rfl, B2, fun r H3 er c3 B3 => q r H3 (by rcases er with e | e <;> rw [e] <;> omega) (c2.trans c3) B3⟩
end
end My
namespace My
open PySem PySem.Spec PyProof.Rows L2
section
variable {P : Program} {w : World} {K : PySem.W.Frag} {mg : Str → Option Value} {base : Heap}
abbrev s__law_number : Stmt := topS 56
theorem sc__law_number : FnScope ["box", "way", "bottom", "top"] ["box"] (defScope s__law_number) := ⟨rfl, rfl, rfl, by decide +kernel, rfl, by decide +kernel, by decide +kernel⟩
def sp__law_number (K : PySem.W.Frag) : Sp := fun vs H Q _ => ∃ (b : Addr), vs = [.ref b] ∧ RB H b ∧ ∀ (a : Addr) (n d : Int) H', Num n d → Ch [b] H H' → RB H' b → Fr K H' a n d → Q (.ref a) H'
theorem c__law_number (T : Txt mg) (C__law_take : Cal P w K mg base 1 "_law_take" sp__law_take) (C__law_turned : Cal P w K mg base 2 "_law_turned" sp__law_turned) (C__law_power : Cal P w K mg base 1 "_law_power" sp__law_power) (C__law_limbs : Cal P w K mg base 2 "_law_limbs" sp__law_limbs)
    (C__law_long : Cal P w K mg base 3 "_law_long" sp__law_long) (C__law_lowest : Cal P w K mg base 2 "_law_lowest" (sp__law_lowest K)) {f : Addr} {fd : FuncData} (F : DefF K mg "_law_number" s__law_number ["box"] f fd) : Cal P w K mg base 4 "_law_number" (sp__law_number K) := by
  refine cal_of F sc__law_number (fun vs H Q E h => by obtain ⟨_, rfl, _⟩ := h; rfl) (fun cdv A outer s H vs Q E hr h => ?_)
  obtain ⟨b, rfl, B, q⟩ := h
  refine ⟨_, (pss_cons (ps_set (i := 1) sc__law_number.nd rfl (Or.inl rfl) (pe_cc C__law_take hr (by decide) (by rfl) (pa_cons (pv 0) (pa_cons pe_int pa_nil))))
 (pss_cons (ps_if (pt_cmpR op_eq (pv 1) pe_int (nomark _)) (pss_one (ps_ret (pe_cc C__law_lowest hr (by decide) (by rfl) (pa_cons (pe_op op_sub (pe_cc C__law_take hr (by decide) (by rfl) (pa_cons (pv 0) (pa_cons pe_int pa_nil))) pe_int) (pa_cons (pe_op op_add pe_int (pe_cc C__law_take hr (by decide) (by rfl) (pa_cons (pv 0) (pa_cons pe_int pa_nil)))) pa_nil))))) pss_nil)
 (pss_cons (ps_if (pt_cmpR op_eq (pv 1) pe_int (nomark _)) (pss_one (ps_ret (pe_tup (pa_cons (pe_cc C__law_long hr (by decide) (by rfl) (pa_cons (pv 0) pa_nil)) (pa_cons pe_int pa_nil))))) pss_nil)
 (pss_cons (ps_if (pt_cmpR op_eq (pv 1) pe_int (nomark _)) (pss_one (ps_ret (pe_cc C__law_lowest hr (by decide) (by rfl) (pa_cons (pe_op op_sub (pe_cc C__law_take hr (by decide) (by rfl) (pa_cons (pv 0) (pa_cons pe_int pa_nil))) pe_int) (pa_cons (pe_op op_add pe_int (pe_cc C__law_take hr (by decide) (by rfl) (pa_cons (pv 0) (pa_cons pe_int pa_nil)))) pa_nil))))) pss_nil)
 (pss_cons (ps_if (pt_cmpR op_eq (pv 1) pe_int (nomark _)) (pss_one (ps_ret (pe_cc C__law_lowest hr (by decide) (by rfl) (pa_cons (pe_cc C__law_long hr (by decide) (by rfl) (pa_cons (pv 0) pa_nil)) (pa_cons (pe_cc C__law_power hr (by decide) (by rfl) (pa_cons pe_int (pa_cons (pe_cc C__law_take hr (by decide) (by rfl) (pa_cons (pv 0) (pa_cons pe_int pa_nil))) pa_nil))) pa_nil))))) pss_nil)
 (pss_cons (ps_if (pt_cmpR op_eq (pv 1) pe_int (nomark _)) (pss_cons (ps_set (i := 2) sc__law_number.nd rfl (Or.inl rfl) (pe_op op_add pe_int (pe_cc C__law_limbs hr (by decide) (by rfl) (pa_cons (pv 0) (pa_cons pe_int pa_nil)))))
 (pss_one (ps_ret (pe_cc C__law_lowest hr (by decide) (by rfl) (pa_cons (pe_op op_sub (pe_op op_add (pe_op op_mulG (pe_cc C__law_turned hr (by decide) (by rfl) (pa_cons (pv 0) (pa_cons (pe_cc C__law_limbs hr (by decide) (by rfl) (pa_cons (pv 0) (pa_cons pe_int pa_nil))) pa_nil))) (pv 2)) (pe_cc C__law_take hr (by decide) (by rfl) (pa_cons (pv 0) (pa_cons pe_int pa_nil)))) pe_int) (pa_cons (pv 2) pa_nil)))))) pss_nil)
 (pss_cons (ps_set (i := 3) sc__law_number.nd rfl (Or.inl rfl) (pe_cc C__law_long hr (by decide) (by rfl) (pa_cons (pv 0) pa_nil)))
 (pss_cons (ps_set (i := 2) sc__law_number.nd rfl (Or.inl rfl) (pe_callB cb_abs (by rfl) T.z_abs (by decide +kernel) (pa_cons (pe_cc C__law_long hr (by decide) (by rfl) (pa_cons (pv 0) pa_nil)) pa_nil)))
 (Evl.pss_cut (ps_if (pt_cmpR op_eq (pv 2) pe_int (nomark _)) (pss_one (ps_set (i := 2) sc__law_number.nd rfl (Or.inl rfl) pe_int)) pss_nil)
 (pss_one (ps_ret (pe_cc C__law_lowest hr (by decide) (by rfl) (pa_cons (pv 3) (pa_cons (pv 2) pa_nil)))))))))))))), ?_⟩
  refine w_start (σ := [some _, none, none, none]) rfl ?_
  have big : ∀ {x : Int} {j : Nat}, x.natAbs < 2 ^ j → j ≤ 300 → x.natAbs < 2 ^ 300 := fun h hj => abs_mono h hj
  have fin : ∀ {t u : Int} {Hx : Hp}, u ≠ 0 → t.natAbs < 2 ^ 300 → u.natAbs < 2 ^ 300 → Ch [b] H Hx → RB Hx b → sp__law_lowest K ([.int t, .int u] ++ []) Hx Q E0 := fun u0 ht hu c B => ⟨_, _, rfl, u0, abs_mono hu (by decide), fun a n d H' l c2 fr => q a n d H' (l.num ht hu) (c.trans0 c2) (B.mono c2) fr⟩
  walk_at "go"
  refine ⟨b, 6, rfl, B, by decide, by decide +kernel, fun way H1 w0 w1 c1 B1 => ?_⟩
  walk_at "go"
  refine ite_d (fun h0 => ?_) (fun h0 => ?_)
  · walk_at "go"
    refine ⟨b, 25, rfl, B1, by decide, by decide +kernel, fun r H2 r0 r1 c2 B2 => ?_⟩
    walk_at "go"
    refine ⟨b, 12, rfl, B2, by decide, by decide +kernel, fun r2 H3 s0 s1 c3 B3 => ?_⟩
    walk_at "go"
    exact fin (by omega) (big (j := 10) (by omega) (by decide)) (big (j := 10) (by omega) (by decide)) ((c1.trans c2).trans c3) B3
  walk_at "go"
  refine ite_d (fun h1 => ?_) (fun h1 => ?_)
  · walk_at "go"
    refine ⟨b, rfl, B1, fun r H2 hr2 c2 B2 => ?_⟩
    walk_at "go"
    refine w_newT (show 2 ≤ sizeLine by decide) fun a H3 n3 c3 h3 => ?_
    exact q a r 1 H3 ⟨by decide, Nat.gcd_one_right _, big hr2 (by decide), by decide +kernel⟩ ((c1.trans c2).trans0 c3) (B2.mono c3) (.of h3)
  walk_at "go"
  refine ite_d (fun h2 => ?_) (fun h2 => ?_)
  · walk_at "go"
    refine ⟨b, 2001, rfl, B1, by decide, by decide +kernel, fun r H2 r0 r1 c2 B2 => ?_⟩
    walk_at "go"
    refine ⟨b, 60, rfl, B2, by decide, by decide +kernel, fun r2 H3 s0 s1 c3 B3 => ?_⟩
    walk_at "go"
    exact fin (by omega) (big (j := 20) (by omega) (by decide)) (big (j := 10) (by omega) (by decide)) ((c1.trans c2).trans c3) B3
  walk_at "go"
  refine ite_d (fun h3 => ?_) (fun h3 => ?_)
  · walk_at "go"
    refine ⟨b, rfl, B1, fun r H2 hr2 c2 B2 => ?_⟩
    walk_at "go"
    refine ⟨b, 40, rfl, B2, by decide, by decide +kernel, fun r2 H3 s0 s1 c3 B3 => ?_⟩
    walk_at "go"
    refine ⟨10, r2, 4, rfl, by decide, by decide, s0, by omega, ?_⟩
    walk_at "go"
    have p := Int.pow_pos (n := 10) (m := r2.toNat) (by decide)
    refine fin (by omega) (big hr2 (by decide)) (abs_mono (abs_pow_lt (b := 4) (s := r2.toNat) (a := 10) (by decide)) (by omega)) ((c1.trans c2).trans c3) B3
  walk_at "go"
  refine ite_d (fun h4 => ?_) (fun h4 => ?_)
  · walk_at "go"
    refine ⟨b, 3, rfl, B1, by decide, by decide, fun r H2 r0 r1 c2 B2 => ?_⟩
    have e3 : (100000 : Int) ^ Int.toNat 3 = 1000000000000000 := by decide +kernel
    rw [e3] at r1
    walk_at "go"
    refine ⟨b, 3, rfl, B2, by decide, by decide, fun r2 H3 s0 s1 c3 B3 => ?_⟩
    rw [e3] at s1
    walk_at "go"
    refine ⟨b, r2, rfl, B3, fun u H4 eu c4 B4 => ?_⟩
    walk_at "go"
    refine w_I (mul_ok_r (by omega)) ?_
    walk_at "go"
    refine ⟨b, 3, rfl, B4, by decide, by decide +kernel, fun r3 H5 t0 t1 c5 B5 => ?_⟩
    walk_at "go"
    refine fin (by omega) ?_ (big (j := 60) (by omega) (by decide)) ((((c1.trans c2).trans c3).trans c4).trans c5) B5
    have m1 : (u * (1 + r)).natAbs ≤ 1000000000000000 * 1000000000000001 := by
      rw [Int.natAbs_mul]
      exact Nat.mul_le_mul (by rcases eu with e | e <;> omega) (by omega)
    exact big (j := 120) (by omega) (by decide)
  walk_at "go"
  refine ⟨b, rfl, B1, fun r H2 hr2 c2 B2 => ?_⟩
  walk_at "go"
  refine ⟨b, rfl, B2, fun r2 H3 hr3 c3 B3 => ?_⟩
  walk_at "go"
  refine w_cut (M := fun σ' H' => H' = H3 ∧ ∃ u : Int, σ' = [some (.ref b), some (.int way), some (.int u), some (.int r)] ∧ u ≠ 0 ∧ u.natAbs < 2 ^ 140) ?_ ?_
  · walk_at "go"
    refine ite_d (fun h5 => ?_) (fun h5 => ?_)
    · walk_at "go"
      exact ⟨rfl, 1, rfl, by decide, by decide +kernel⟩
    · walk_at "go"
      exact ⟨rfl, _, rfl, h5, by rw [Int.natAbs_natCast]; exact hr3⟩
  · rintro σ' H' ⟨rfl, u, rfl, u0, ub⟩
    walk_at "go"
    exact fin u0 (big hr2 (by decide)) (big ub (by decide)) ((c1.trans c2).trans c3) B3
end
end My
namespace My
open PySem PySem.Spec PyProof.Rows L2
/-- a def with defaults, called with them or without -/
structure DefE (K : PySem.W.Frag) (mg : Str → Option Value) (x : Str) (st : Stmt) (ps : List Str) (dvs : List V) (f : Addr) (fd : FuncData) : Prop where
  fn : FunD K x x (defArgs st) (defBody st) (defScope st) dvs [] f fd
  mgf : mg x = some (.ref f)
  bi : Binds K fd ps []
  bd : ∃ ds, Vals dvs ds ∧ Binds K fd ps ds
section
variable {P : Program} {w : World} {K : PySem.W.Frag} {mg : Str → Option Value} {base : Heap}
theorem cal_ofE {x : Str} {st : Stmt} {f : Addr} {fd : FuncData} {N ps : List Str} {dvs : List V} {k : Nat} {sp : Sp} (F : DefE K mg x st ps dvs f fd) (S : FnScope N ps (defScope st)) (len : ∀ vs H Q E, sp vs H Q E → vs.length = ps.length)
    (hbody : ∀ (cdv : Value) (A : Around) (outer : List Env) (s : Shared) (H : Hp) (vs : List V) (Q : VK) (E : XK), Room k (A.deeper (envOfC x (defScope st) s.heap.objs.size f cdv)) → sp vs H Q E →
      ∃ t, PSs (cxOf (L2N.CX P w) P w K mg base N x (defScope st) f cdv A outer s H E) (defBody st) t ∧ t { nx := fun _ H' => Q .non H', rt := Q } (start N vs) H) : CalN P w K mg base (k + 1) x sp ∧ CalD P w K mg base (k + 1) x dvs sp := by
  have ok := F.fn.ok (CX := L2N.CX P w) (P := P) (w := w) (mg := mg) (base := base) S len hbody
  obtain ⟨ds, v, b⟩ := F.bd
  exact ⟨⟨f, fd, ps, ok, F.mgf, F.fn.kp, F.bi⟩, ⟨f, fd, ps, ds, ok, F.mgf, F.fn.kp, b, v⟩⟩
theorem exact_neg {g n' : Int} (h : g ≠ 0) : (g * n').fdiv (-g) = -n' := by
  rw [show g * n' = -g * -n' by rw [Int.neg_mul, Int.mul_neg, Int.neg_neg]]
  exact Int.mul_fdiv_cancel_left _ (by omega)
theorem exact_pos {g n' : Int} (h : g ≠ 0) : (g * n').fdiv g = n' := Int.mul_fdiv_cancel_left _ h
theorem low_frac {n d : Int} (hd : d ≠ 0) : Low n d (n.fdiv (if d < 0 then -((Nat.gcd n.natAbs d.natAbs : Nat) : Int) else ((Nat.gcd n.natAbs d.natAbs : Nat) : Int))) (d.fdiv (if d < 0 then -((Nat.gcd n.natAbs d.natAbs : Nat) : Int) else ((Nat.gcd n.natAbs d.natAbs : Nat) : Int))) := by
  generalize hg : Nat.gcd n.natAbs d.natAbs = g
  have g0 : 0 < g := by
    rw [← hg]
    exact Nat.gcd_pos_of_pos_right _ (by omega)
  obtain ⟨n', en⟩ := Int.ofNat_dvd_left.mpr (by rw [← hg]; exact Nat.gcd_dvd_left n.natAbs d.natAbs : g ∣ n.natAbs)
  obtain ⟨d', ed⟩ := Int.ofNat_dvd_left.mpr (by rw [← hg]; exact Nat.gcd_dvd_right n.natAbs d.natAbs : g ∣ d.natAbs)
  have gi : (g : Int) ≠ 0 := by omega
  by_cases c : d < 0
  · have l := low_of (t := n) (b := d) (s := -1) (g := g) (.inr rfl) (by omega) hg.symm
    rw [if_pos c]
    rw [en, ed, exact_neg gi, exact_neg gi]
    rw [Int.neg_one_mul, Int.neg_one_mul, en, ed, ← Int.mul_neg, ← Int.mul_neg, exact_pos gi, exact_pos gi] at l
    exact l
  · have l := low_of (t := n) (b := d) (s := 1) (g := g) (.inl rfl) (by omega) hg.symm
    rw [if_neg c]
    rw [Int.one_mul, Int.one_mul] at l
    exact l
abbrev s_fraction : Stmt := topS 33
theorem sc_fraction : FnScope ["n", "d", "common"] ["n", "d"] (defScope s_fraction) := ⟨rfl, rfl, rfl, by decide +kernel, rfl, by decide +kernel, by decide +kernel⟩
def sp_fraction (K : PySem.W.Frag) (C : Addr) : Sp := fun vs H Q E => ∃ (n d : Int), vs = [.int n, .int d] ∧ d.natAbs < 2 ^ 8000 ∧ (d = 0 → E (.ref C) none H) ∧ (d ≠ 0 → ∀ (t : Addr) (x y : Int) H', Low n d x y → Ch [] H H' → Fr K H' t x y → Q (.ref t) H')
theorem c_fraction (m_gcd : mg "gcd" = some (.builtin "math.gcd")) {A_DivisionByZero : Addr} (X_DivisionByZero : ExcF K mg "DivisionByZero" A_DivisionByZero) {f : Addr} {fd : FuncData} (F : DefE K mg "fraction" s_fraction ["n", "d"] [.int 1] f fd) :
    CalN P w K mg base 1 "fraction" (sp_fraction K A_DivisionByZero) ∧ CalD P w K mg base 1 "fraction" [.int 1] (sp_fraction K A_DivisionByZero) := by
  refine cal_ofE F sc_fraction (fun vs H Q E h => by obtain ⟨_, _, rfl, _⟩ := h; rfl) (fun cdv A outer s H vs Q E hr h => ?_)
  obtain ⟨n, d, rfl, bd, qE, q⟩ := h
  refine ⟨_, (pss_cons (ps_if (pt_cmpR op_eq (pv 1) pe_int (nomark _)) (pss_one (L2N.ps_raise rfl (L2N.takes_of rfl rfl rfl rfl) (pmk_own0N PySem.F.excBase_ValueError X_DivisionByZero.xin X_DivisionByZero.gl X_DivisionByZero.kp (raises_own X_DivisionByZero.sub X_DivisionByZero.ty) (by rfl)))) pss_nil)
 (PSs.nox (pss_cons (ps_set (i := 2) sc_fraction.nd rfl (Or.inl rfl) (pe_callBfun cr_gcd (by rfl) m_gcd (pa_cons (pv 0) (pa_cons (pv 1) pa_nil))))
 (Evl.pss_cut (ps_if (pt_cmpR op_lt (pv 1) pe_int (nomark _)) (pss_one (ps_set (i := 2) sc_fraction.nd rfl (Or.inl rfl) (pe_un un_neg (pv 2)))) pss_nil)
 (pss_one (ps_ret (pe_tup (pa_cons (pe_op op_fdivG (pv 0) (pv 2)) (pa_cons (pe_op op_fdivG (pv 1) (pv 2)) pa_nil))))))))), ?_⟩
  refine w_start (σ := [some _, some _, none]) rfl ?_
  walk_at "go"
  refine ite_d (fun h0 => ?_) (fun h0 => ?_)
  · exact qE h0
  have q := q h0
  have l := low_frac (n := n) h0
  have g0 : 0 < Nat.gcd n.natAbs d.natAbs := Nat.gcd_pos_of_pos_right _ (by omega)
  have gb : ((Nat.gcd n.natAbs d.natAbs : Nat) : Int).natAbs < 2 ^ 8000 := by
    rw [Int.natAbs_natCast]
    exact Nat.lt_of_le_of_lt (Nat.gcd_le_right _ (by omega)) bd
  walk_at "go"
  generalize Nat.gcd n.natAbs d.natAbs = g at l g0 gb ⊢
  refine w_cut (M := fun σ' H' => H' = H ∧ σ' = [some (.int n), some (.int d), some (.int (if d < 0 then -(g : Int) else (g : Int)))]) ?_ ?_
  · walk_at "go"
    refine ite_d (fun h1 => ?_) (fun h1 => ?_)
    · walk_at "go"
      rw [if_pos h1]
      exact ⟨rfl, rfl⟩
    · walk_at "go"
      rw [if_neg h1]
      exact ⟨rfl, rfl⟩
  rintro σ' H' ⟨rfl, rfl⟩
  have c0 : (if d < 0 then -(g : Int) else (g : Int)) ≠ 0 ∧ (if d < 0 then -(g : Int) else (g : Int)).natAbs < 2 ^ 8000 := by split <;> omega
  generalize (if d < 0 then -(g : Int) else (g : Int)) = c at l c0 ⊢
  walk_at "go"
  refine w_I (div_ok c0.1 c0.2 (by decide)) ?_
  walk_at "go"
  refine w_I (div_ok c0.1 c0.2 (by decide)) ?_
  walk_at "go"
  refine w_newT (show 2 ≤ sizeLine by decide) fun t H1 n1 c1 h1 => ?_
  exact q t _ _ H1 l c1 (.of h1)
end
end My
namespace My
open PySem PySem.Spec PyProof.Rows L2
theorem mulb {x y : Int} {a b : Nat} (hx : x.natAbs < 2 ^ a) (hy : y.natAbs < 2 ^ b) : (x * y).natAbs < 2 ^ (a + b) := by
  rw [Int.natAbs_mul, Nat.pow_add]
  exact Nat.mul_lt_mul'' hx hy
section
variable {P : Program} {w : World} {K : PySem.W.Frag} {mg : Str → Option Value} {base : Heap}
/-- what two fractions give: top and bottom before they are brought to lowest terms -/
def sp_two (K : PySem.W.Frag) (g : Int → Int → Int → Int → Int × Int) : Sp := fun vs H Q _ => ∃ (a b : Addr) (n d m e : Int) (z : Nat), vs = [.ref a, .ref b] ∧ Fr K H a n d ∧ Fr K H b m e ∧ 0 < d ∧ 0 < e ∧ n.natAbs < 2 ^ z ∧ d.natAbs < 2 ^ z ∧ m.natAbs < 2 ^ z ∧ e.natAbs < 2 ^ z ∧ z ≤ 3000 ∧
  ∀ (t : Addr) (x y : Int) H', Low (g n d m e).1 (g n d m e).2 x y → Ch [] H H' → Fr K H' t x y → Q (.ref t) H'
abbrev s_plus : Stmt := topS 34
theorem sc_plus : FnScope ["a", "b"] ["a", "b"] (defScope s_plus) := ⟨rfl, rfl, rfl, by decide +kernel, rfl, by decide +kernel, by decide +kernel⟩
theorem c_plus {A_DivisionByZero : Addr} (C_fraction : CalN P w K mg base 1 "fraction" (sp_fraction K A_DivisionByZero)) {f : Addr} {fd : FuncData} (F : DefF K mg "plus" s_plus ["a", "b"] f fd) : Cal P w K mg base 2 "plus" (sp_two K fun n d m e => (n * e + m * d, d * e)) := by
  refine cal_of F sc_plus (fun vs H Q E h => by obtain ⟨_, _, _, _, _, _, _, rfl, _⟩ := h; rfl) (fun cdv A outer s H vs Q E hr h => ?_)
  obtain ⟨a, b, n, d, m, e, z, rfl, fa, fb, d0, e0, b1, b2, b3, b4, hz, q⟩ := h
  refine ⟨_, (pss_one (ps_ret (pe_ccN C_fraction hr (by decide) (by rfl) (pa_cons (pe_op op_add (pe_op op_mulG (pe_ix (k_ixT (K := K) rfl) (pv 0) pe_int (fun _ _ => rfl)) (pe_ix (k_ixT (K := K) rfl) (pv 1) pe_int (fun _ _ => rfl))) (pe_op op_mulG (pe_ix (k_ixT (K := K) rfl) (pv 1) pe_int (fun _ _ => rfl)) (pe_ix (k_ixT (K := K) rfl) (pv 0) pe_int (fun _ _ => rfl)))) (pa_cons (pe_op op_mulG (pe_ix (k_ixT (K := K) rfl) (pv 0) pe_int (fun _ _ => rfl)) (pe_ix (k_ixT (K := K) rfl) (pv 1) pe_int (fun _ _ => rfl))) pa_nil))))), ?_⟩
  refine w_start (σ := [some _, some _]) rfl ?_
  walk_at "go"
  refine w_I (mul_ok b1 b4 (by omega)) ?_
  walk_at "go"
  refine w_I (mul_ok b3 b2 (by omega)) ?_
  walk_at "go"
  refine w_I (mul_ok b2 b4 (by omega)) ?_
  walk_at "go"
  refine ⟨_, _, rfl, abs_mono (mulb b2 b4) (by omega), fun h => absurd h (Int.ne_of_gt (Int.mul_pos d0 e0)), fun _ t x y H' l c ft => q t x y H' l c ft⟩
abbrev s_minus : Stmt := topS 35
theorem sc_minus : FnScope ["a", "b"] ["a", "b"] (defScope s_minus) := ⟨rfl, rfl, rfl, by decide +kernel, rfl, by decide +kernel, by decide +kernel⟩
theorem c_minus {A_DivisionByZero : Addr} (C_fraction : CalN P w K mg base 1 "fraction" (sp_fraction K A_DivisionByZero)) {f : Addr} {fd : FuncData} (F : DefF K mg "minus" s_minus ["a", "b"] f fd) : Cal P w K mg base 2 "minus" (sp_two K fun n d m e => (n * e - m * d, d * e)) := by
  refine cal_of F sc_minus (fun vs H Q E h => by obtain ⟨_, _, _, _, _, _, _, rfl, _⟩ := h; rfl) (fun cdv A outer s H vs Q E hr h => ?_)
  obtain ⟨a, b, n, d, m, e, z, rfl, fa, fb, d0, e0, b1, b2, b3, b4, hz, q⟩ := h
  refine ⟨_, (pss_one (ps_ret (pe_ccN C_fraction hr (by decide) (by rfl) (pa_cons (pe_op op_sub (pe_op op_mulG (pe_ix (k_ixT (K := K) rfl) (pv 0) pe_int (fun _ _ => rfl)) (pe_ix (k_ixT (K := K) rfl) (pv 1) pe_int (fun _ _ => rfl))) (pe_op op_mulG (pe_ix (k_ixT (K := K) rfl) (pv 1) pe_int (fun _ _ => rfl)) (pe_ix (k_ixT (K := K) rfl) (pv 0) pe_int (fun _ _ => rfl)))) (pa_cons (pe_op op_mulG (pe_ix (k_ixT (K := K) rfl) (pv 0) pe_int (fun _ _ => rfl)) (pe_ix (k_ixT (K := K) rfl) (pv 1) pe_int (fun _ _ => rfl))) pa_nil))))), ?_⟩
  refine w_start (σ := [some _, some _]) rfl ?_
  walk_at "go"
  refine w_I (mul_ok b1 b4 (by omega)) ?_
  walk_at "go"
  refine w_I (mul_ok b3 b2 (by omega)) ?_
  walk_at "go"
  refine w_I (mul_ok b2 b4 (by omega)) ?_
  walk_at "go"
  refine ⟨_, _, rfl, abs_mono (mulb b2 b4) (by omega), fun h => absurd h (Int.ne_of_gt (Int.mul_pos d0 e0)), fun _ t x y H' l c ft => q t x y H' l c ft⟩
abbrev s_times : Stmt := topS 36
theorem sc_times : FnScope ["a", "b"] ["a", "b"] (defScope s_times) := ⟨rfl, rfl, rfl, by decide +kernel, rfl, by decide +kernel, by decide +kernel⟩
theorem c_times {A_DivisionByZero : Addr} (C_fraction : CalN P w K mg base 1 "fraction" (sp_fraction K A_DivisionByZero)) {f : Addr} {fd : FuncData} (F : DefF K mg "times" s_times ["a", "b"] f fd) : Cal P w K mg base 2 "times" (sp_two K fun n d m e => (n * m, d * e)) := by
  refine cal_of F sc_times (fun vs H Q E h => by obtain ⟨_, _, _, _, _, _, _, rfl, _⟩ := h; rfl) (fun cdv A outer s H vs Q E hr h => ?_)
  obtain ⟨a, b, n, d, m, e, z, rfl, fa, fb, d0, e0, b1, b2, b3, b4, hz, q⟩ := h
  refine ⟨_, (pss_one (ps_ret (pe_ccN C_fraction hr (by decide) (by rfl) (pa_cons (pe_op op_mulG (pe_ix (k_ixT (K := K) rfl) (pv 0) pe_int (fun _ _ => rfl)) (pe_ix (k_ixT (K := K) rfl) (pv 1) pe_int (fun _ _ => rfl))) (pa_cons (pe_op op_mulG (pe_ix (k_ixT (K := K) rfl) (pv 0) pe_int (fun _ _ => rfl)) (pe_ix (k_ixT (K := K) rfl) (pv 1) pe_int (fun _ _ => rfl))) pa_nil))))), ?_⟩
  refine w_start (σ := [some _, some _]) rfl ?_
  walk_at "go"
  refine w_I (mul_ok b1 b3 (by omega)) ?_
  walk_at "go"
  refine w_I (mul_ok b2 b4 (by omega)) ?_
  walk_at "go"
  refine ⟨_, _, rfl, abs_mono (mulb b2 b4) (by omega), fun h => absurd h (Int.ne_of_gt (Int.mul_pos d0 e0)), fun _ t x y H' l c ft => q t x y H' l c ft⟩
abbrev s_over : Stmt := topS 37
theorem sc_over : FnScope ["a", "b"] ["a", "b"] (defScope s_over) := ⟨rfl, rfl, rfl, by decide +kernel, rfl, by decide +kernel, by decide +kernel⟩
def sp_over (K : PySem.W.Frag) (C : Addr) : Sp := fun vs H Q E => ∃ (a b : Addr) (n d m e : Int) (z : Nat), vs = [.ref a, .ref b] ∧ Fr K H a n d ∧ Fr K H b m e ∧ 0 < d ∧ 0 < e ∧ n.natAbs < 2 ^ z ∧ d.natAbs < 2 ^ z ∧ m.natAbs < 2 ^ z ∧ e.natAbs < 2 ^ z ∧ z ≤ 3000 ∧
  (m = 0 → E (.ref C) none H) ∧ (m ≠ 0 → ∀ (t : Addr) (x y : Int) H', Low (n * e) (d * m) x y → Ch [] H H' → Fr K H' t x y → Q (.ref t) H')
theorem c_over {A_DivisionByZero : Addr} (X_DivisionByZero : ExcF K mg "DivisionByZero" A_DivisionByZero) (C_fraction : CalN P w K mg base 1 "fraction" (sp_fraction K A_DivisionByZero)) {f : Addr} {fd : FuncData} (F : DefF K mg "over" s_over ["a", "b"] f fd) : CalN P w K mg base 2 "over" (sp_over K A_DivisionByZero) := by
  refine cal_ofN F sc_over (fun vs H Q E h => by obtain ⟨_, _, _, _, _, _, _, rfl, _⟩ := h; rfl) (fun cdv A outer s H vs Q E hr h => ?_)
  obtain ⟨a, b, n, d, m, e, z, rfl, fa, fb, d0, e0, b1, b2, b3, b4, hz, qE, q⟩ := h
  refine ⟨_, (pss_cons (ps_if (pt_cmpR op_eq (pe_ix (k_ixT (K := K) rfl) (pv 1) pe_int (fun _ _ => rfl)) pe_int (nomark _)) (pss_one (L2N.ps_raise rfl (L2N.takes_of rfl rfl rfl rfl) (pmk_own0N PySem.F.excBase_ValueError X_DivisionByZero.xin X_DivisionByZero.gl X_DivisionByZero.kp (raises_own X_DivisionByZero.sub X_DivisionByZero.ty) (by rfl)))) pss_nil)
 (PSs.nox (pss_one (ps_ret (pe_ccN C_fraction hr (by decide) (by rfl) (pa_cons (pe_op op_mulG (pe_ix (k_ixT (K := K) rfl) (pv 0) pe_int (fun _ _ => rfl)) (pe_ix (k_ixT (K := K) rfl) (pv 1) pe_int (fun _ _ => rfl))) (pa_cons (pe_op op_mulG (pe_ix (k_ixT (K := K) rfl) (pv 0) pe_int (fun _ _ => rfl)) (pe_ix (k_ixT (K := K) rfl) (pv 1) pe_int (fun _ _ => rfl))) pa_nil))))))), ?_⟩
  refine w_start (σ := [some _, some _]) rfl ?_
  walk_at "go"
  refine ite_d (fun h0 => ?_) (fun h0 => ?_)
  · exact qE h0
  have q := q h0
  walk_at "go"
  refine w_I (mul_ok b1 b4 (by omega)) ?_
  walk_at "go"
  refine w_I (mul_ok b2 b3 (by omega)) ?_
  walk_at "go"
  refine ⟨_, _, rfl, abs_mono (mulb b2 b3) (by omega), fun h => absurd h (Int.mul_ne_zero (by omega) h0), fun _ t x y H' l c ft => q t x y H' l c ft⟩
/-! ### bezout -/
/-- the loop: before, rest in turn; u = s U, u_next = -s V -/
structure Bz (a size before rest u un : Int) (s : Int) (U V : Nat) : Prop where
  s1 : s = 1 ∨ s = -1
  eu : u = s * U
  ev : un = -(s * V)
  b0 : 0 < before
  r0 : 0 ≤ rest
  lb : before ≤ size
  lr : rest ≤ size
  sum : U * rest + V * before = size
  bu : (U : Int) ≤ size
  c1 : ∃ k : Int, before = u * a + k * size
  c2 : ∃ k : Int, rest = un * a + k * size
  gc : Nat.gcd before.toNat rest.toNat = Nat.gcd a.natAbs size.toNat
theorem Bz.first {a size : Int} (h : 0 < size) : Bz a size size (a % size) 0 1 (-1) 0 1 where
  s1 := .inr rfl
  eu := by omega
  ev := by omega
  b0 := h
  r0 := Int.emod_nonneg _ (by omega)
  lb := Int.le_refl _
  lr := Int.le_of_lt (Int.emod_lt_of_pos _ h)
  sum := by omega
  bu := by omega
  c1 := ⟨1, by omega⟩
  c2 := ⟨-(a / size), by
    have := Int.mul_ediv_add_emod a size
    rw [Int.neg_mul, Int.mul_comm (a / size)]
    omega⟩
  gc := by
    have h0 := Int.emod_nonneg a (show size ≠ 0 by omega)
    have e := Int.mul_ediv_add_emod a size
    refine Nat.dvd_antisymm (Nat.dvd_gcd ?_ ?_) (Nat.dvd_gcd ?_ ?_)
    · have d1 : ((Nat.gcd size.toNat (a % size).toNat : Nat) : Int) ∣ size := Int.ofNat_dvd_left.mpr (by rw [show size.natAbs = size.toNat by omega]; exact Nat.gcd_dvd_left _ _)
      have d2 : ((Nat.gcd size.toNat (a % size).toNat : Nat) : Int) ∣ a % size := Int.ofNat_dvd_left.mpr (by rw [show (a % size).natAbs = (a % size).toNat by omega]; exact Nat.gcd_dvd_right _ _)
      have d3 : ((Nat.gcd size.toNat (a % size).toNat : Nat) : Int) ∣ a := by
        have d4 := Int.dvd_add (Int.dvd_trans d1 (Int.dvd_mul_right size (a / size))) d2
        rw [e] at d4
        exact d4
      exact Int.ofNat_dvd_left.mp d3
    · exact Nat.gcd_dvd_left _ _
    · exact Nat.gcd_dvd_right _ _
    · have d1 : ((Nat.gcd a.natAbs size.toNat : Nat) : Int) ∣ size := Int.ofNat_dvd_left.mpr (by rw [show size.natAbs = size.toNat by omega]; exact Nat.gcd_dvd_right _ _)
      have d2 : ((Nat.gcd a.natAbs size.toNat : Nat) : Int) ∣ a := Int.ofNat_dvd_left.mpr (Nat.gcd_dvd_left _ _)
      have d3 : ((Nat.gcd a.natAbs size.toNat : Nat) : Int) ∣ a % size := by
        rw [show a % size = a - size * (a / size) by omega]
        exact Int.dvd_sub d2 (Int.dvd_trans d1 (Int.dvd_mul_right _ _))
      have := Int.ofNat_dvd_left.mp d3
      rw [show (a % size).natAbs = (a % size).toNat by omega] at this
      exact this
end
end My
namespace My
open PySem PySem.Spec PyProof.Rows L2
theorem mul_one_le {x y : Int} (hx : 0 ≤ x) (hy : 1 ≤ y) : x ≤ x * y := by
  have := Int.mul_le_mul_of_nonneg_left hy hx
  rw [Int.mul_one] at this
  exact this
section
variable {a size before rest u un s : Int} {U V : Nat}
theorem Bz.v_le (h : Bz a size before rest u un s U V) : (V : Int) ≤ size := by
  have b0 := h.b0
  have r0 := h.r0
  have s0 := h.sum
  have p := mul_one_le (show (0 : Int) ≤ V by omega) (show 1 ≤ before by omega)
  have p2 := Int.mul_nonneg (show (0 : Int) ≤ U by omega) r0
  omega
theorem Bz.next (h : Bz a size before rest u un s U V) (h0 : rest ≠ 0) (m : Int) (hm : m = before / rest) : Bz a size rest (before - m * rest) un (u - m * un) (-s) V (U + m.toNat * V) := by
  have r0 := h.r0
  have b0 := h.b0
  have rp : 0 < rest := by omega
  have e := Int.mul_ediv_add_emod before rest
  rw [← hm] at e
  have m0 : 0 ≤ m := by rw [hm]; exact Int.ediv_nonneg (by omega) (by omega)
  have q0 := Int.emod_nonneg before (show rest ≠ 0 by omega)
  have q1 := Int.emod_lt_of_pos before rp
  have er : before - m * rest = before % rest := by rw [Int.mul_comm]; omega
  have em : ((U + m.toNat * V : Nat) : Int) = U + m * V := by
    rw [Int.natCast_add, Int.natCast_mul, Int.toNat_of_nonneg m0]
  have vl := h.v_le
  refine ⟨?_, ?_, ?_, rp, by omega, h.lr, by have := h.lr; omega, ?_, vl, h.c2, ?_, ?_⟩
  · rcases h.s1 with z | z
    · exact .inr (by omega)
    · exact .inl (by omega)
  · rw [h.ev, Int.neg_mul]
  · rw [h.eu, h.ev, em, Int.neg_mul, Int.neg_neg, Int.mul_add, Int.mul_neg]
    have : m * (s * V) = s * (m * V) := Int.mul_left_comm _ _ _
    omega
  · rw [em]
    have s0 := h.sum
    rw [Int.mul_sub, Int.add_mul]
    have : (V : Int) * (m * rest) = m * V * rest := by rw [Int.mul_left_comm, Int.mul_assoc]
    omega
  · obtain ⟨k1, e1⟩ := h.c1
    obtain ⟨k2, e2⟩ := h.c2
    refine ⟨k1 - m * k2, ?_⟩
    rw [Int.sub_mul, Int.sub_mul, Int.mul_assoc, Int.mul_assoc]
    have : m * rest = m * (un * a) + m * (k2 * size) := by rw [← Int.mul_add, ← e2]
    omega
  · rw [er, ← h.gc]
    have t : (before % rest).toNat = before.toNat % rest.toNat := by
      have e1 : ((before.toNat % rest.toNat : Nat) : Int) = before % rest := by
        have z : ((before.toNat % rest.toNat : Nat) : Int) = (before.toNat : Int) % (rest.toNat : Int) := rfl
        rw [z, Int.toNat_of_nonneg (by omega), Int.toNat_of_nonneg (by omega)]
      omega
    rw [t]
    exact (Nat.gcd_comm _ _).trans ((Nat.gcd_rec rest.toNat before.toNat).symm.trans (Nat.gcd_comm _ _))
/-- what bezout tells -/
structure BzOk (a b g u v : Int) : Prop where
  g0 : 0 ≤ g
  eq : u * a + v * b = g
  z : g = 0 → a = 0 ∧ b = 0 ∧ u = 0 ∧ v = 0
  d : g ≠ 0 → a % g = 0 ∧ b % g = 0
  b0 : b = 0 → v = 0 ∧ u = sgn a
  b1 : b ≠ 0 → 0 ≤ u ∧ u * g < b.natAbs
theorem Bz.done {b : Int} (hb : b ≠ 0) (h : Bz a b.natAbs before 0 u un s U V) : (b.natAbs : Int).fdiv before = V ∧ 0 < (V : Int) ∧ BzOk a b before (u % V) ((before - u % V * a).fdiv b) := by
  have p0 := h.b0
  have s0 := h.sum
  rw [Int.mul_zero, Int.zero_add] at s0
  have fv : (b.natAbs : Int).fdiv before = V := by
    rw [← s0, Int.mul_comm]
    exact Int.mul_fdiv_cancel_left _ (by omega)
  have V0 : 0 < (V : Int) := by
    by_cases c : (V : Int) = 0
    · rw [c, Int.zero_mul] at s0
      omega
    · omega
  have g := h.gc
  rw [show (0 : Int).toNat = 0 from rfl, Nat.gcd_zero_right, show ((b.natAbs : Int)).toNat = b.natAbs by omega] at g
  have da : before ∣ a := by
    have : ((before.toNat : Nat) : Int) ∣ a := Int.ofNat_dvd_left.mpr (by rw [g]; exact Nat.gcd_dvd_left _ _)
    rwa [Int.toNat_of_nonneg (by omega)] at this
  have db : before ∣ b := by
    have : ((before.toNat : Nat) : Int) ∣ b := Int.ofNat_dvd_left.mpr (by rw [g]; exact Nat.gcd_dvd_right _ _)
    rwa [Int.toNat_of_nonneg (by omega)] at this
  obtain ⟨a', ea⟩ := da
  obtain ⟨k, ek⟩ := h.c1
  have m0 := Int.emod_nonneg u (show (V : Int) ≠ 0 by omega)
  have m1 := Int.emod_lt_of_pos u V0
  have em := Int.mul_ediv_add_emod u V
  have dv : (b.natAbs : Int) ∣ before - u % V * a := by
    refine ⟨k + u / V * a', ?_⟩
    have x1 : u * a = V * (u / V) * a + u % V * a := by
      conv => lhs; rw [← em, Int.add_mul]
    have x2 : (V : Int) * (u / V) * a = (b.natAbs : Int) * (u / V * a') := by
      rw [← s0]
      conv => lhs; rw [ea]
      simp only [Int.mul_assoc, Int.mul_left_comm, Int.mul_comm]
    have x3 : (b.natAbs : Int) * k = k * b.natAbs := Int.mul_comm _ _
    rw [Int.mul_add]
    omega
  have db2 : b ∣ before - u % V * a := Int.natAbs_dvd.mp dv
  obtain ⟨t, et⟩ := db2
  have ft : (before - u % V * a).fdiv b = t := by
    rw [et]
    exact Int.mul_fdiv_cancel_left _ hb
  refine ⟨fv, V0, by omega, ?_, fun z => by omega, fun _ => ⟨Int.emod_eq_zero_of_dvd ⟨a', ea⟩, Int.emod_eq_zero_of_dvd db⟩, fun z => absurd z hb, fun _ => ⟨m0, ?_⟩⟩
  · rw [ft]
    have : t * b = b * t := Int.mul_comm _ _
    omega
  · rw [← s0]
    exact Int.mul_lt_mul_of_pos_right m1 p0
end
end My
namespace My
open PySem PySem.Spec PyProof.Rows L2
section
variable {P : Program} {w : World} {K : PySem.W.Frag} {mg : Str → Option Value} {base : Heap}
abbrev s_bezout : Stmt := topS 32
theorem sc_bezout : FnScope ["a", "b", "size", "before", "rest", "u", "u_next", "many"] ["a", "b"] (defScope s_bezout) := ⟨rfl, rfl, rfl, by decide +kernel, rfl, by decide +kernel, by decide +kernel⟩
def sp_bezout (K : PySem.W.Frag) : Sp := fun vs H Q _ => ∃ (a b : Int), vs = [.int a, .int b] ∧ a.natAbs < 2 ^ 300 ∧ b.natAbs < 2 ^ 300 ∧ ∀ (t : Addr) (g u v : Int) H', BzOk a b g u v → g.natAbs < 2 ^ 300 → u.natAbs < 2 ^ 300 → Ch [] H H' → SqT K H' t (ivs [g, u, v]) → Q (.ref t) H'
theorem c_bezout (T : Txt mg) (C_sign_of : Cal P w K mg base 1 "sign_of" sp_sign_of) {f : Addr} {fd : FuncData} (F : DefF K mg "bezout" s_bezout ["a", "b"] f fd) : Cal P w K mg base 2 "bezout" (sp_bezout K) := by
  refine cal_of F sc_bezout (fun vs H Q E h => by obtain ⟨_, _, rfl, _⟩ := h; rfl) (fun cdv A outer s H vs Q E hr h => ?_)
  obtain ⟨a, b, rfl, ba, bb, q⟩ := h
  refine ⟨_, (pss_cons (ps_if (pt_cmpR op_eq (pv 1) pe_int (nomark _)) (pss_one (ps_ret (pe_tup (pa_cons (pe_callB cb_abs (by rfl) T.z_abs (by decide +kernel) (pa_cons (pv 0) pa_nil)) (pa_cons (pe_cc C_sign_of hr (by decide) (by rfl) (pa_cons (pv 0) pa_nil)) (pa_cons pe_int pa_nil)))))) pss_nil)
 (pss_cons (ps_set (i := 2) sc_bezout.nd rfl (Or.inl rfl) (pe_callB cb_abs (by rfl) T.z_abs (by decide +kernel) (pa_cons (pv 1) pa_nil)))
 (pss_cons (ps_par (i := 3) (j := 4) (by rfl) sc_bezout.nd rfl rfl (by decide) rfl rfl (pa_cons (pv 2) (pa_cons (pe_op op_mod (pv 0) (pv 2)) pa_nil)) (by rfl))
 (pss_cons (ps_asg (pe_tup (pa_cons pe_int (pa_cons pe_int pa_nil))) (k_gtup (K := K) rfl rfl (pgs_cons (pg_name (i := 5) sc_bezout.nd rfl (Or.inl rfl)) (pgs_cons (pg_name (i := 6) sc_bezout.nd rfl (Or.inl rfl)) pgs_nil))))
 (pss_cons (ps_while PassesOwn.never (pt_cmpR op_ne (pv 4) pe_int (nomark _)) (pss_cons (ps_set (i := 7) sc_bezout.nd rfl (Or.inl rfl) (pe_op op_fdivG (pv 3) (pv 4)))
 (pss_cons (ps_par (i := 3) (j := 4) (by rfl) sc_bezout.nd rfl rfl (by decide) rfl rfl (pa_cons (pv 4) (pa_cons (pe_op op_sub (pv 3) (pe_op op_mulG (pv 7) (pv 4))) pa_nil)) (by rfl))
 (pss_one (ps_par (i := 5) (j := 6) (by rfl) sc_bezout.nd rfl rfl (by decide) rfl rfl (pa_cons (pv 6) (pa_cons (pe_op op_sub (pv 5) (pe_op op_mulG (pv 7) (pv 6))) pa_nil)) (by rfl))))))
 (pss_cons (ps_set (i := 5) sc_bezout.nd rfl (Or.inl rfl) (pe_op op_mod (pv 5) (pe_op op_fdivG (pv 2) (pv 3))))
 (pss_one (ps_ret (pe_tup (pa_cons (pv 3) (pa_cons (pv 5) (pa_cons (pe_op op_fdivG (pe_op op_sub (pv 3) (pe_op op_mulG (pv 5) (pv 0))) (pv 1)) pa_nil)))))))))))), ?_⟩
  refine w_start (σ := [some _, some _, none, none, none, none, none, none]) rfl ?_
  walk_at "go"
  refine ite_d (fun h0 => ?_) (fun h0 => ?_)
  · subst h0
    walk_at "go"
    refine ⟨a, rfl, ?_⟩
    walk_at "go"
    refine w_newT (show 3 ≤ sizeLine by decide) fun t H1 n1 c1 h1 => ?_
    have sa : sgn a = if a < 0 then -1 else if a > 0 then 1 else 0 := rfl
    refine q t (a.natAbs : Int) (sgn a) 0 H1 ⟨by omega, ?_, fun z => ⟨by omega, rfl, ?_, rfl⟩, fun z => ⟨?_, by simp⟩, fun _ => ⟨rfl, rfl⟩, fun z => absurd rfl z⟩ (by rw [Int.natAbs_natCast]; exact ba) ?_ c1 (.of h1)
    · rw [sa]
      split
      · omega
      · split <;> omega
    · rw [sa]
      split
      · omega
      · split <;> omega
    · exact Int.emod_eq_zero_of_dvd (Int.natAbs_dvd.mpr (Int.dvd_refl a))
    · rw [sa]
      refine Nat.lt_of_le_of_lt (show _ ≤ 1 from ?_) (by decide +kernel)
      split
      · decide
      · split <;> decide
  walk_at "go"
  have sz : 0 < (b.natAbs : Int) := by omega
  refine w_mod sz ?_
  walk_at "go"
  refine w_newT (show 2 ≤ sizeLine by decide) fun t0 H0 n0 c0 h00 => ?_
  refine w_gtup (.of h00) rfl ?_
  walk_at "go"
  refine w_while (fun m σ H' => H' = H0 ∧ ∃ (be re u un s : Int) (U W : Nat) (z : Option V), σ = [some (.int a), some (.int b), some (.int b.natAbs), some (.int be), some (.int re), some (.int u), some (.int un), z] ∧ Bz a b.natAbs be re u un s U W ∧ m = re.toNat) _ ⟨rfl, _, _, 0, 1, -1, 0, 1, none, rfl, Bz.first sz, rfl⟩ ?_
  rintro m σ H' ⟨rfl, be, re, u, un, s, U, W, z, rfl, B, rfl⟩
  have b0 := B.b0
  have r0 := B.r0
  have lb := B.lb
  have lr := B.lr
  have bu := B.bu
  have vl := B.v_le
  have eu : u.natAbs ≤ b.natAbs := by
    have z := B.eu
    rcases B.s1 with c | c <;> rw [c] at z <;> omega
  have ev : un.natAbs ≤ b.natAbs := by
    have z := B.ev
    rcases B.s1 with c | c <;> rw [c] at z <;> omega
  have bbe : be.natAbs < 2 ^ 300 := by omega
  have bre : re.natAbs < 2 ^ 300 := by omega
  have bun : un.natAbs < 2 ^ 300 := by omega
  walk_at "go"
  refine ite_nd (fun h1 => ?_) (fun h1 => ?_)
  · refine ⟨_, fun _ _ h => h, ?_⟩
    have fd' : be.fdiv re = be / re := Int.fdiv_eq_ediv_of_nonneg _ (by omega)
    have n := B.next h1 _ rfl
    walk_at "go"
    refine w_I (div_ok (by omega) bre (by decide)) ?_
    rw [fd']
    have bm : (be / re).natAbs < 2 ^ 300 := by
      have x0 := Int.ediv_nonneg (show 0 ≤ be by omega) r0
      have x1 := Int.ediv_le_self re (show 0 ≤ be by omega)
      omega
    have e1 : be - be / re * re < re := by
      have x0 := Int.mul_ediv_add_emod be re
      have x1 := Int.emod_lt_of_pos be (show 0 < re by omega)
      rw [Int.mul_comm (be / re)]
      omega
    generalize be / re = m at n bm e1 ⊢
    walk_at "go"
    refine w_I (mul_ok bm bre (by decide)) ?_
    walk_at "go"
    refine w_I (mul_ok bm bun (by decide)) ?_
    walk_at "go"
    refine ⟨_, ?_, rfl, _, _, _, _, _, _, _, _, rfl, n, rfl⟩
    have d0 := n.b0
    have d1 := n.r0
    omega
  · have hz : re = 0 := by omega
    subst hz
    obtain ⟨fv, W0, ok⟩ := B.done h0
    walk_at "go"
    refine w_I (div_ok (by omega) bbe (by decide)) ?_
    rw [fv]
    refine w_mod W0 ?_
    have m0 := Int.emod_nonneg u (show (W : Int) ≠ 0 by omega)
    have m1 := Int.emod_lt_of_pos u W0
    have bu2 : (u % (W : Int)).natAbs < 2 ^ 300 := by omega
    walk_at "go"
    refine w_I (mul_ok bu2 ba (by decide)) ?_
    walk_at "go"
    refine w_I (div_ok h0 bb (by decide)) ?_
    walk_at "go"
    refine w_newT (show 3 ≤ sizeLine by decide) fun t H1 n1 c1 h1 => ?_
    exact q t _ _ _ H1 ok bbe bu2 (c0.trans c1) (.of h1)
end
end My
namespace My
open PySem PySem.Spec PyProof.Rows L2
theorem sgn_two (a : Int) : sgn a = (if decide (0 < a) = true then 1 else 0) - (if decide (a < 0) = true then 1 else 0) := by
  unfold sgn
  by_cases h : a < 0
  · have h2 : ¬ 0 < a := by omega
    simp [h, h2]
  · by_cases h2 : 0 < a <;> simp [h, h2]
theorem BzOk.bv {a b g u v : Int} (h : BzOk a b g u v) (ba : a.natAbs < 2 ^ 300) (bg : g.natAbs < 2 ^ 300) (bu : u.natAbs < 2 ^ 300) : v.natAbs < 2 ^ 601 := by
  by_cases c : b = 0
  · rw [(h.b0 c).1]
    decide +kernel
  · have m := mulb bu ba
    have e : v * b = g - u * a := by have := h.eq; omega
    have n : v.natAbs * b.natAbs = (g - u * a).natAbs := by rw [← Int.natAbs_mul, e]
    have l := Nat.le_mul_of_pos_right v.natAbs (show 0 < b.natAbs by omega)
    have g2 : g.natAbs < 2 ^ 600 := abs_mono bg (by decide)
    have p : (2 : Nat) ^ 601 = 2 ^ 600 + 2 ^ 600 := by rw [Nat.pow_succ]; omega
    have m' : (u * a).natAbs < 2 ^ 600 := m
    omega
section
variable {P : Program} {w : World} {K : PySem.W.Frag} {mg : Str → Option Value} {base : Heap}
abbrev s__law_bezout_holds : Stmt := topS 53
theorem sc__law_bezout_holds : FnScope ["a", "b", "told", "part", "common", "u", "v"] ["a", "b"] (defScope s__law_bezout_holds) := ⟨rfl, rfl, rfl, by decide +kernel, rfl, by decide +kernel, by decide +kernel⟩
def sp__law_bezout_holds : Sp := fun vs H Q _ => ∃ (a b : Int), vs = [.int a, .int b] ∧ a.natAbs < 2 ^ 300 ∧ b.natAbs < 2 ^ 300 ∧ ∀ H', Ch [] H H' → Q (.bl true) H'
theorem c__law_bezout_holds (T : Txt mg) (C_bezout : Cal P w K mg base 2 "bezout" (sp_bezout K)) (C__law_is_integer : Cal P w K mg base 1 "_law_is_integer" sp__law_is_integer) {f : Addr} {fd : FuncData} (F : DefF K mg "_law_bezout_holds" s__law_bezout_holds ["a", "b"] f fd) :
    Cal P w K mg base 3 "_law_bezout_holds" sp__law_bezout_holds := by
  refine cal_of F sc__law_bezout_holds (fun vs H Q E h => by obtain ⟨_, _, rfl, _⟩ := h; rfl) (fun cdv A outer s H vs Q E hr h => ?_)
  obtain ⟨a, b, rfl, ba, bb, q⟩ := h
  refine ⟨_, (pss_cons (ps_set (i := 2) sc__law_bezout_holds.nd rfl (Or.inl rfl) (pe_cc C_bezout hr (by decide) (by rfl) (pa_cons (pv 0) (pa_cons (pv 1) pa_nil))))
 (pss_cons (ps_if (PW.pt (pw_or (pt_not (pt_val (pe_callB (k_isi (K := K) rfl) (by rfl) T.z_isinstance (by decide +kernel) (pa_cons (pv 2) (pa_cons (pe_bltn (by rfl) T.z_tuple (by decide +kernel) (v := .ty "tuple") rfl) pa_nil))))) (pw_or1 (pt_cmpR op_ne (pe_callB (k_len (K := K) rfl) (by rfl) T.z_len PySem.boot_len (pa_cons (pv 2) pa_nil)) pe_int (nomark _))))) (pss_one (ps_ret pe_bl)) pss_nil)
 (pss_cons (ps_for PassesOwn.never rfl (k_piT (K := K) rfl (pv 2)) (pg_name (i := 3) sc__law_bezout_holds.nd rfl (Or.inl rfl)) (pss_one (ps_if (pt_not (pt_val (pe_cc C__law_is_integer hr (by decide) (by rfl) (pa_cons (pv 3) pa_nil)))) (pss_one (ps_ret pe_bl)) pss_nil)))
 (pss_cons (ps_set (i := 4) sc__law_bezout_holds.nd rfl (Or.inl rfl) (pe_ix (k_ixT (K := K) rfl) (pv 2) pe_int (fun _ _ => rfl)))
 (pss_cons (ps_set (i := 5) sc__law_bezout_holds.nd rfl (Or.inl rfl) (pe_ix (k_ixT (K := K) rfl) (pv 2) pe_int (fun _ _ => rfl)))
 (pss_cons (ps_set (i := 6) sc__law_bezout_holds.nd rfl (Or.inl rfl) (pe_ix (k_ixT (K := K) rfl) (pv 2) pe_int (fun _ _ => rfl)))
 (pss_cons (ps_if (PW.pt (pw_or (pt_cmpR op_lt (pv 4) pe_int (nomark _)) (pw_or1 (pt_cmpR op_ne (pe_op op_add (pe_op op_mulG (pv 5) (pv 0)) (pe_op op_mulG (pv 6) (pv 1))) (pv 4) (nomark _))))) (pss_one (ps_ret pe_bl)) pss_nil)
 (pss_cons (ps_if (pt_cmpR op_eq (pv 4) pe_int (nomark _)) (pss_one (ps_ret (pe_and (pe_cmpR op_eq (pv 0) pe_int (nomark _)) (pe_and (pe_cmpR op_eq (pv 1) pe_int (nomark _)) (pe_and (pe_cmpR op_eq (pv 5) pe_int (nomark _)) (pe_one (pe_cmpR op_eq (pv 6) pe_int (nomark _)))))))) pss_nil)
 (pss_cons (ps_if (PW.pt (pw_or (pt_cmpR op_ne (pe_op op_mod (pe_callTy cb_int (by rfl) T.z_int (by decide +kernel) (pa_cons (pv 0) pa_nil)) (pv 4)) pe_int (nomark _)) (pw_or1 (pt_cmpR op_ne (pe_op op_mod (pe_callTy cb_int (by rfl) T.z_int (by decide +kernel) (pa_cons (pv 1) pa_nil)) (pv 4)) pe_int (nomark _))))) (pss_one (ps_ret pe_bl)) pss_nil)
 (pss_cons (ps_if (pt_cmpR op_eq (pv 1) pe_int (nomark _)) (pss_one (ps_ret (pe_and (pe_cmpR op_eq (pv 6) pe_int (nomark _)) (pe_one (pe_cmpR op_eq (pv 5) (pe_op op_sub (pe_callTy cb_int (by rfl) T.z_int (by decide +kernel) (pa_cons (pe_cmpR op_gt (pv 0) pe_int (nomark _)) pa_nil)) (pe_callTy cb_int (by rfl) T.z_int (by decide +kernel) (pa_cons (pe_cmpR op_lt (pv 0) pe_int (nomark _)) pa_nil))) (nomark _)))))) pss_nil)
 (pss_one (ps_ret (pe_and (pe_cmpR op_le pe_int (pv 5) (nomark _)) (pe_one (pe_cmpR op_lt (pe_op op_mulG (pv 5) (pv 4)) (pe_callB cb_abs (by rfl) T.z_abs (by decide +kernel) (pa_cons (pv 1) pa_nil)) (nomark _)))))))))))))))), ?_⟩
  refine w_start (σ := [some _, some _, none, none, none, none, none]) rfl ?_
  walk_at "go"
  refine ⟨a, b, rfl, ba, bb, fun t g u v H1 ok bg bu c1 ht => ?_⟩
  walk_at "go"
  refine w_isiTT ht ?_
  walk_at "go"
  rw [if_neg (by decide)]
  walk_at "go"
  refine w_lenTi ht ?_
  walk_at "go"
  refine ite_ndf rfl ?_
  walk_at "go"
  refine w_iTr ht ?_
  refine for_Ti (ns := [g, u, v]) (fun i σ H' => H' = H1 ∧ ∃ z, σ = [some (.int a), some (.int b), some (.ref t), z, none, none, none]) ⟨rfl, none, rfl⟩ (fun i σ H' _ h => by rw [h.1]; exact ht) ?_ ?_
  · rintro i x σ H' hx ⟨rfl, z, rfl⟩
    walk_at "go"
    refine ⟨_, rfl, ?_⟩
    walk_at "go"
    rw [if_neg (by decide)]
    exact ⟨rfl, _, rfl⟩
  · rintro σ H' ⟨rfl, z, rfl⟩
    walk_at "go"
    have bv := ok.bv ba bg bu
    refine ite_df (by have := ok.g0; omega) ?_
    walk_at "go"
    refine w_I (mul_ok bu ba (by decide)) ?_
    walk_at "go"
    refine w_I (mul_ok bv bb (by decide)) ?_
    walk_at "go"
    refine ite_ndf ok.eq ?_
    walk_at "go"
    refine ite_d (fun h0 => ?_) (fun h0 => ?_)
    · obtain ⟨x1, x2, x3, x4⟩ := ok.z h0
      walk_at "go"
      rw [decide_eq_true x1, if_pos rfl]
      walk_at "go"
      rw [decide_eq_true x2, if_pos rfl]
      walk_at "go"
      rw [decide_eq_true x3, if_pos rfl]
      walk_at "go"
      rw [decide_eq_true x4]
      exact q _ c1
    · obtain ⟨x1, x2⟩ := ok.d h0
      have g0 := ok.g0
      walk_at "go"
      refine w_mod (by omega) ?_
      walk_at "go"
      refine ite_ndf x1 ?_
      walk_at "go"
      refine w_mod (by omega) ?_
      walk_at "go"
      refine ite_ndf x2 ?_
      walk_at "go"
      refine ite_d (fun h1 => ?_) (fun h1 => ?_)
      · obtain ⟨y1, y2⟩ := ok.b0 h1
        walk_at "go"
        rw [decide_eq_true y1, if_pos rfl]
        walk_at "go"
        rw [decide_eq_true (y2.trans (sgn_two a))]
        exact q _ c1
      · obtain ⟨y1, y2⟩ := ok.b1 h1
        walk_at "go"
        rw [decide_eq_true y1, if_pos rfl]
        walk_at "go"
        refine w_I (mul_ok bu bg (by decide)) ?_
        walk_at "go"
        rw [decide_eq_true y2]
        exact q _ c1
end
end My
namespace My
open PySem PySem.Spec PyProof.Rows L2
section
variable {P : Program} {w : World} {K : PySem.W.Frag} {mg : Str → Option Value} {base : Heap}
abbrev s__law_two : Stmt := topS 52
theorem sc__law_two : FnScope ["box", "way", "shared", "number", "low", "high", "turn"] ["box"] (defScope s__law_two) := ⟨rfl, rfl, rfl, by decide +kernel, rfl, by decide +kernel, by decide +kernel⟩
def sp__law_two (K : PySem.W.Frag) : Sp := fun vs H Q _ => ∃ (b : Addr), vs = [.ref b] ∧ RB H b ∧ ∀ (t : Addr) (x y : Int) H', x.natAbs < 2 ^ 300 → y.natAbs < 2 ^ 300 → Ch [b] H H' → RB H' b → Fr K H' t x y → Q (.ref t) H'
theorem c__law_two (T : Txt mg) (C__law_take : Cal P w K mg base 1 "_law_take" sp__law_take) (C__law_turned : Cal P w K mg base 2 "_law_turned" sp__law_turned) (C__law_limbs : Cal P w K mg base 2 "_law_limbs" sp__law_limbs) (C__law_long : Cal P w K mg base 3 "_law_long" sp__law_long)
    {f : Addr} {fd : FuncData} (F : DefF K mg "_law_two" s__law_two ["box"] f fd) : Cal P w K mg base 4 "_law_two" (sp__law_two K) := by
  refine cal_of F sc__law_two (fun vs H Q E h => by obtain ⟨_, rfl, _⟩ := h; rfl) (fun cdv A outer s H vs Q E hr h => ?_)
  obtain ⟨b, rfl, B, q⟩ := h
  refine ⟨_, (pss_cons (ps_set (i := 1) sc__law_two.nd rfl (Or.inl rfl) (pe_cc C__law_take hr (by decide) (by rfl) (pa_cons (pv 0) (pa_cons pe_int pa_nil))))
 (pss_cons (ps_if (pt_cmpR op_eq (pv 1) pe_int (nomark _)) (pss_one (ps_ret (pe_tup (pa_cons (pe_op op_sub (pe_cc C__law_take hr (by decide) (by rfl) (pa_cons (pv 0) (pa_cons pe_int pa_nil))) pe_int) (pa_cons (pe_op op_sub (pe_cc C__law_take hr (by decide) (by rfl) (pa_cons (pv 0) (pa_cons pe_int pa_nil))) pe_int) pa_nil))))) pss_nil)
 (pss_cons (ps_if (pt_cmpR op_eq (pv 1) pe_int (nomark _)) (pss_cons (ps_set (i := 2) sc__law_two.nd rfl (Or.inl rfl) (pe_op op_add pe_int (pe_cc C__law_limbs hr (by decide) (by rfl) (pa_cons (pv 0) (pa_cons pe_int pa_nil)))))
 (pss_one (ps_ret (pe_tup (pa_cons (pe_cc C__law_turned hr (by decide) (by rfl) (pa_cons (pv 0) (pa_cons (pe_op op_mulG (pv 2) (pe_cc C__law_limbs hr (by decide) (by rfl) (pa_cons (pv 0) (pa_cons pe_int pa_nil)))) pa_nil))) (pa_cons (pe_cc C__law_turned hr (by decide) (by rfl) (pa_cons (pv 0) (pa_cons (pe_op op_mulG (pv 2) (pe_cc C__law_limbs hr (by decide) (by rfl) (pa_cons (pv 0) (pa_cons pe_int pa_nil)))) pa_nil))) pa_nil)))))) pss_nil)
 (pss_cons (ps_if (pt_cmpR op_eq (pv 1) pe_int (nomark _)) (pss_cons (ps_set (i := 2) sc__law_two.nd rfl (Or.inl rfl) (pe_cc C__law_turned hr (by decide) (by rfl) (pa_cons (pv 0) (pa_cons (pe_op op_add pe_int (pe_cc C__law_limbs hr (by decide) (by rfl) (pa_cons (pv 0) (pa_cons pe_int pa_nil)))) pa_nil))))
 (pss_one (ps_ret (pe_tup (pa_cons (pv 2) (pa_cons (pe_op op_mulG (pv 2) (pe_op op_add (pe_cc C__law_limbs hr (by decide) (by rfl) (pa_cons (pv 0) (pa_cons pe_int pa_nil))) (pe_cc C__law_take hr (by decide) (by rfl) (pa_cons (pv 0) (pa_cons pe_int pa_nil))))) pa_nil)))))) pss_nil)
 (pss_cons (ps_if (pt_cmpR op_eq (pv 1) pe_int (nomark _)) (pss_cons (ps_set (i := 3) sc__law_two.nd rfl (Or.inl rfl) (pe_cc C__law_long hr (by decide) (by rfl) (pa_cons (pv 0) pa_nil)))
 (pss_one (ps_ret (pe_tup (pa_cons (pv 3) (pa_cons (pe_cc C__law_turned hr (by decide) (by rfl) (pa_cons (pv 0) (pa_cons (pv 3) pa_nil))) pa_nil)))))) pss_nil)
 (pss_cons (ps_if (pt_cmpR op_eq (pv 1) pe_int (nomark _)) (pss_cons (ps_set (i := 3) sc__law_two.nd rfl (Or.inl rfl) (pe_cc C__law_long hr (by decide) (by rfl) (pa_cons (pv 0) pa_nil)))
 (pss_one (ps_ret (pe_ix (k_ixL (K := K) rfl) (pe_lst (pa_cons (pe_tup (pa_cons pe_int (pa_cons (pv 3) pa_nil))) (pa_cons (pe_tup (pa_cons (pv 3) (pa_cons pe_int pa_nil))) (pa_cons (pe_tup (pa_cons pe_int (pa_cons pe_int pa_nil))) pa_nil)))) (pe_cc C__law_take hr (by decide) (by rfl) (pa_cons (pv 0) (pa_cons pe_int pa_nil))) (fun _ _ => rfl))))) pss_nil)
 (pss_cons (ps_if (pt_cmpR op_eq (pv 1) pe_int (nomark _)) (pss_cons (ps_set (i := 4) sc__law_two.nd rfl (Or.inl rfl) pe_int)
 (pss_cons (ps_set (i := 5) sc__law_two.nd rfl (Or.inl rfl) pe_int)
 (pss_cons (ps_for PassesOwn.never rfl (pi_range1 (by rfl) T.z_range (pa_cons (pe_cc C__law_take hr (by decide) (by rfl) (pa_cons (pv 0) (pa_cons pe_int pa_nil))) pa_nil)) (pg_name (i := 6) sc__law_two.nd rfl (Or.inl rfl)) (pss_one (ps_par (i := 4) (j := 5) (by rfl) sc__law_two.nd rfl rfl (by decide) rfl rfl (pa_cons (pv 5) (pa_cons (pe_op op_add (pv 4) (pv 5)) pa_nil)) (by rfl))))
 (pss_one (ps_ret (pe_tup (pa_cons (pe_cc C__law_turned hr (by decide) (by rfl) (pa_cons (pv 0) (pa_cons (pv 4) pa_nil))) (pa_cons (pe_cc C__law_turned hr (by decide) (by rfl) (pa_cons (pv 0) (pa_cons (pv 5) pa_nil))) pa_nil)))))))) pss_nil)
 (pss_cons (ps_if (pt_cmpR op_eq (pv 1) pe_int (nomark _)) (pss_one (ps_ret (pe_tup (pa_cons (pe_cc C__law_turned hr (by decide) (by rfl) (pa_cons (pv 0) (pa_cons pe_int pa_nil))) (pa_cons (pe_cc C__law_long hr (by decide) (by rfl) (pa_cons (pv 0) pa_nil)) pa_nil))))) pss_nil)
 (pss_one (ps_ret (pe_tup (pa_cons (pe_cc C__law_long hr (by decide) (by rfl) (pa_cons (pv 0) pa_nil)) (pa_cons (pe_cc C__law_long hr (by decide) (by rfl) (pa_cons (pv 0) pa_nil)) pa_nil))))))))))))), ?_⟩
  refine w_start (σ := [some _, none, none, none, none, none, none]) rfl ?_
  have sm : ∀ {x : Int} {j : Nat}, x.natAbs < 2 ^ j → j ≤ 300 → x.natAbs < 2 ^ 300 := fun h hj => abs_mono h hj
  have e2 : (100000 : Int) ^ Int.toNat 2 = 10000000000 := by decide +kernel
  have e3 : (100000 : Int) ^ Int.toNat 3 = 1000000000000000 := by decide +kernel
  have e4 : (100000 : Int) ^ Int.toNat 4 = 100000000000000000000 := by decide +kernel
  have e5 : (100000 : Int) ^ Int.toNat 5 = 10000000000000000000000000 := by decide +kernel
  walk_at "go"
  refine ⟨b, 8, rfl, B, by decide, by decide +kernel, fun way H1 w0 w1 c1 B1 => ?_⟩
  walk_at "go"
  refine ite_d (fun h0 => ?_) (fun h0 => ?_)
  · walk_at "go"
    refine ⟨b, 25, rfl, B1, by decide, by decide +kernel, fun r H2 r0 r1 c2 B2 => ?_⟩
    walk_at "go"
    refine ⟨b, 25, rfl, B2, by decide, by decide +kernel, fun r2 H3 s0 s1 c3 B3 => ?_⟩
    walk_at "go"
    refine w_newT (show 2 ≤ sizeLine by decide) fun t H4 n4 c4 h4 => ?_
    exact q t _ _ H4 (sm (j := 10) (by omega) (by decide)) (sm (j := 10) (by omega) (by decide)) (((c1.trans c2).trans c3).trans0 c4) (B3.mono c4) (.of h4)
  walk_at "go"
  refine ite_d (fun h1 => ?_) (fun h1 => ?_)
  · walk_at "go"
    refine ⟨b, 3, rfl, B1, by decide, by decide, fun r H2 r0 r1 c2 B2 => ?_⟩
    rw [e3] at r1
    have b1 : (1 + r).natAbs < 2 ^ 60 := by omega
    walk_at "go"
    refine ⟨b, 4, rfl, B2, by decide, by decide, fun r2 H3 s0 s1 c3 B3 => ?_⟩
    rw [e4] at s1
    have b2 : r2.natAbs < 2 ^ 70 := by omega
    walk_at "go"
    refine w_I (mul_ok b1 b2 (by decide)) ?_
    walk_at "go"
    refine ⟨b, _, rfl, B3, fun x H4 ex c4 B4 => ?_⟩
    walk_at "go"
    refine ⟨b, 4, rfl, B4, by decide, by decide, fun r3 H5 t0 t1 c5 B5 => ?_⟩
    rw [e4] at t1
    have b3 : r3.natAbs < 2 ^ 70 := by omega
    walk_at "go"
    refine w_I (mul_ok b1 b3 (by decide)) ?_
    walk_at "go"
    refine ⟨b, _, rfl, B5, fun y H6 ey c6 B6 => ?_⟩
    walk_at "go"
    refine w_newT (show 2 ≤ sizeLine by decide) fun t H7 n7 c7 h7 => ?_
    have m1 := mulb b1 b2
    have m2 := mulb b1 b3
    exact q t _ _ H7 (sm (j := 130) (by rcases ex with e | e <;> rw [e] <;> omega) (by decide)) (sm (j := 130) (by rcases ey with e | e <;> rw [e] <;> omega) (by decide)) ((((((c1.trans c2).trans c3).trans c4).trans c5).trans c6).trans0 c7) (B6.mono c7) (.of h7)
  walk_at "go"
  refine ite_d (fun h2 => ?_) (fun h2 => ?_)
  · walk_at "go"
    refine ⟨b, 2, rfl, B1, by decide, by decide, fun r H2 r0 r1 c2 B2 => ?_⟩
    rw [e2] at r1
    walk_at "go"
    refine ⟨b, _, rfl, B2, fun x H3 ex c3 B3 => ?_⟩
    have bx : x.natAbs < 2 ^ 40 := by rcases ex with e | e <;> rw [e] <;> omega
    walk_at "go"
    refine ⟨b, 5, rfl, B3, by decide, by decide, fun r2 H4 s0 s1 c4 B4 => ?_⟩
    rw [e5] at s1
    walk_at "go"
    refine ⟨b, 2, rfl, B4, by decide, by decide +kernel, fun r3 H5 t0 t1 c5 B5 => ?_⟩
    have b2 : (r2 + r3).natAbs < 2 ^ 90 := by omega
    walk_at "go"
    refine w_I (mul_ok bx b2 (by decide)) ?_
    walk_at "go"
    refine w_newT (show 2 ≤ sizeLine by decide) fun t H6 n6 c6 h6 => ?_
    exact q t _ _ H6 (sm bx (by decide)) (sm (mulb bx b2) (by decide)) (((((c1.trans c2).trans c3).trans c4).trans c5).trans0 c6) (B5.mono c6) (.of h6)
  walk_at "go"
  refine ite_d (fun h3 => ?_) (fun h3 => ?_)
  · walk_at "go"
    refine ⟨b, rfl, B1, fun x H2 bx c2 B2 => ?_⟩
    walk_at "go"
    refine ⟨b, x, rfl, B2, fun y H3 ey c3 B3 => ?_⟩
    walk_at "go"
    refine w_newT (show 2 ≤ sizeLine by decide) fun t H4 n4 c4 h4 => ?_
    exact q t _ _ H4 (sm bx (by decide)) (sm (j := 140) (by rcases ey with e | e <;> rw [e] <;> omega) (by decide)) (((c1.trans c2).trans c3).trans0 c4) (B3.mono c4) (.of h4)
  walk_at "go"
  refine ite_d (fun h4 => ?_) (fun h4 => ?_)
  · walk_at "go"
    refine ⟨b, rfl, B1, fun x H2 bx c2 B2 => ?_⟩
    walk_at "go"
    refine w_newT (show 2 ≤ sizeLine by decide) fun t1 H3 n3 c3 h3 => ?_
    walk_at "go"
    refine w_newT (show 2 ≤ sizeLine by decide) fun t2 H4 n4 c4 h4' => ?_
    walk_at "go"
    refine w_newT (show 2 ≤ sizeLine by decide) fun t3 H5 n5 c5 h5 => ?_
    walk_at "go"
    refine w_newL (show 3 ≤ sizeLine by decide) fun l H6 n6 c6 h6 => ?_
    have c26 := ((c3.trans c4).trans c5).trans c6
    have nl : l ≠ b := (((((B2.mono c3).mono c4).mono c5)).ne n6).symm
    walk_at "go"
    refine ⟨b, 3, rfl, B2.mono c26, by decide, by decide +kernel, fun k H7 k0 k1 c7 B7 => ?_⟩
    have h7 := c7.at1 nl h6
    have c07 := ((c1.trans c2).trans0 c26).trans c7
    have f1 : Fr K H7 t1 0 x := c7.sqT ((((c4.trans c5).trans c6)).sqT (.of (xs := ivs [0, x]) h3))
    have f2 : Fr K H7 t2 x 0 := c7.sqT ((c5.trans c6).sqT (.of (xs := ivs [x, 0]) h4'))
    have f3 : Fr K H7 t3 0 0 := c7.sqT (c6.sqT (.of (xs := ivs [0, 0]) h5))
    have z0 : (0 : Int).natAbs < 2 ^ 300 := by decide +kernel
    have cs : k = 0 ∨ k = 1 ∨ k = 2 := by omega
    rcases cs with e | e | e
    · subst e
      exact w_ixL (.of h7) rfl (q t1 _ _ H7 z0 (sm bx (by decide)) c07 B7 f1)
    · subst e
      exact w_ixL (.of h7) rfl (q t2 _ _ H7 (sm bx (by decide)) z0 c07 B7 f2)
    · subst e
      exact w_ixL (.of h7) rfl (q t3 _ _ H7 z0 z0 c07 B7 f3)
  walk_at "go"
  refine ite_d (fun h5 => ?_) (fun h5 => ?_)
  · walk_at "go"
    refine ⟨b, 191, rfl, B1, by decide, by decide +kernel, fun cnt H2 k0 k1 c2 B2 => ?_⟩
    walk_at "go"
    refine w_iR1r (by omega) (by omega) ?_
    refine for_R (n := cnt.toNat) (fun i σ H' => H' = H2 ∧ ∃ (x y : Int) (z1 : Option V) (z2 : Option V), σ = [some (.ref b), some (.int way), z2, none, some (.int x), some (.int y), z1] ∧ 0 ≤ x ∧ 0 ≤ y ∧ x < 2 ^ (i + 1) ∧ y < 2 ^ (i + 1)) ⟨rfl, 0, 1, none, none, rfl, by decide, by decide, by decide, by decide⟩ ?_ ?_
    · rintro i σ H' hi ⟨rfl, x, y, z1, z2, rfl, x0, y0, xb, yb⟩
      walk_at "go"
      have p : (2 : Int) ^ (i + 1 + 1) = 2 ^ (i + 1) + 2 ^ (i + 1) := by
        rw [Int.pow_succ]
        omega
      exact ⟨rfl, _, _, _, _, rfl, y0, by omega, by omega, by omega⟩
    · rintro σ H' ⟨rfl, x, y, z1, z2, rfl, x0, y0, xb, yb⟩
      have p := pow_le (a := 2) (by decide) (show cnt.toNat + 1 ≤ 192 by omega)
      have e : (2 : Int) ^ 192 = 6277101735386680763835789423207666416102355444464034512896 := by decide +kernel
      have e' : (2 : Nat) ^ 193 = 12554203470773361527671578846415332832204710888928069025792 := by decide +kernel
      walk_at "go"
      refine ⟨b, x, rfl, B2, fun u H3 eu c3 B3 => ?_⟩
      walk_at "go"
      refine ⟨b, y, rfl, B3, fun v H4 ev c4 B4 => ?_⟩
      walk_at "go"
      refine w_newT (show 2 ≤ sizeLine by decide) fun t H5 n5 c5 h5 => ?_
      exact q t _ _ H5 (sm (j := 193) (by rcases eu with z | z <;> rw [z] <;> omega) (by decide)) (sm (j := 193) (by rcases ev with z | z <;> rw [z] <;> omega) (by decide)) ((((c1.trans c2).trans c3).trans c4).trans0 c5) (B4.mono c5) (.of h5)
  walk_at "go"
  refine ite_d (fun h6 => ?_) (fun h6 => ?_)
  · walk_at "go"
    refine ⟨b, 1, rfl, B1, fun u H2 eu c2 B2 => ?_⟩
    walk_at "go"
    refine ⟨b, rfl, B2, fun v H3 bv c3 B3 => ?_⟩
    walk_at "go"
    refine w_newT (show 2 ≤ sizeLine by decide) fun t H4 n4 c4 h4 => ?_
    exact q t _ _ H4 (sm (j := 10) (by rcases eu with z | z <;> rw [z] <;> decide) (by decide)) (sm bv (by decide)) (((c1.trans c2).trans c3).trans0 c4) (B3.mono c4) (.of h4)
  walk_at "go"
  refine ⟨b, rfl, B1, fun u H2 bu c2 B2 => ?_⟩
  walk_at "go"
  refine ⟨b, rfl, B2, fun v H3 bv c3 B3 => ?_⟩
  walk_at "go"
  refine w_newT (show 2 ≤ sizeLine by decide) fun t H4 n4 c4 h4 => ?_
  exact q t _ _ H4 (sm bu (by decide)) (sm bv (by decide)) (((c1.trans c2).trans c3).trans0 c4) (B3.mono c4) (.of h4)
end
end My
namespace My
open PySem PySem.Spec PyProof.Rows L2
section
variable {P : Program} {w : World} {K : PySem.W.Frag} {mg : Str → Option Value} {base : Heap}
abbrev s__law_pair : Stmt := topS 54
theorem sc__law_pair : FnScope ["box", "way", "shared"] ["box"] (defScope s__law_pair) := ⟨rfl, rfl, rfl, by decide +kernel, rfl, by decide +kernel, by decide +kernel⟩
theorem c__law_pair (T : Txt mg) (C__law_take : Cal P w K mg base 1 "_law_take" sp__law_take) (C__law_turned : Cal P w K mg base 2 "_law_turned" sp__law_turned) (C__law_limbs : Cal P w K mg base 2 "_law_limbs" sp__law_limbs) (C__law_long : Cal P w K mg base 3 "_law_long" sp__law_long)
    {f : Addr} {fd : FuncData} (F : DefF K mg "_law_pair" s__law_pair ["box"] f fd) : Cal P w K mg base 4 "_law_pair" (sp__law_two K) := by
  refine cal_of F sc__law_pair (fun vs H Q E h => by obtain ⟨_, rfl, _⟩ := h; rfl) (fun cdv A outer s H vs Q E hr h => ?_)
  obtain ⟨b, rfl, B, q⟩ := h
  refine ⟨_, (pss_cons (ps_set (i := 1) sc__law_pair.nd rfl (Or.inl rfl) (pe_cc C__law_take hr (by decide) (by rfl) (pa_cons (pv 0) (pa_cons pe_int pa_nil))))
 (pss_cons (ps_if (pt_cmpR op_eq (pv 1) pe_int (nomark _)) (pss_one (ps_ret (pe_tup (pa_cons (pe_op op_sub (pe_cc C__law_take hr (by decide) (by rfl) (pa_cons (pv 0) (pa_cons pe_int pa_nil))) pe_int) (pa_cons (pe_op op_sub (pe_cc C__law_take hr (by decide) (by rfl) (pa_cons (pv 0) (pa_cons pe_int pa_nil))) pe_int) pa_nil))))) pss_nil)
 (pss_cons (ps_if (pt_cmpR op_eq (pv 1) pe_int (nomark _)) (pss_cons (ps_set (i := 2) sc__law_pair.nd rfl (Or.inl rfl) (pe_cc C__law_turned hr (by decide) (by rfl) (pa_cons (pv 0) (pa_cons (pe_op op_add pe_int (pe_cc C__law_limbs hr (by decide) (by rfl) (pa_cons (pv 0) (pa_cons pe_int pa_nil)))) pa_nil))))
 (pss_one (ps_ret (pe_tup (pa_cons (pe_op op_mulG (pv 2) (pe_op op_sub (pe_cc C__law_limbs hr (by decide) (by rfl) (pa_cons (pv 0) (pa_cons pe_int pa_nil))) pe_int)) (pa_cons (pe_op op_mulG (pv 2) (pe_op op_add pe_int (pe_cc C__law_take hr (by decide) (by rfl) (pa_cons (pv 0) (pa_cons pe_int pa_nil))))) pa_nil)))))) pss_nil)
 (pss_cons (ps_if (pt_cmpR op_eq (pv 1) pe_int (nomark _)) (pss_one (ps_ret (pe_tup (pa_cons (pe_cc C__law_long hr (by decide) (by rfl) (pa_cons (pv 0) pa_nil)) (pa_cons pe_int pa_nil))))) pss_nil)
 (pss_cons (ps_if (pt_cmpR op_eq (pv 1) pe_int (nomark _)) (pss_one (ps_ret (pe_tup (pa_cons pe_int (pa_cons (pe_cc C__law_long hr (by decide) (by rfl) (pa_cons (pv 0) pa_nil)) pa_nil))))) pss_nil)
 (pss_cons (ps_if (pt_cmpR op_eq (pv 1) pe_int (nomark _)) (pss_cons (ps_set (i := 2) sc__law_pair.nd rfl (Or.inl rfl) (pe_cc C__law_turned hr (by decide) (by rfl) (pa_cons (pv 0) (pa_cons (pe_op op_add pe_int (pe_cc C__law_take hr (by decide) (by rfl) (pa_cons (pv 0) (pa_cons pe_int pa_nil)))) pa_nil))))
 (pss_one (ps_ret (pe_tup (pa_cons (pe_op op_mulG (pv 2) (pe_op op_sub (pe_cc C__law_limbs hr (by decide) (by rfl) (pa_cons (pv 0) (pa_cons pe_int pa_nil))) pe_int)) (pa_cons (pv 2) pa_nil)))))) pss_nil)
 (pss_one (ps_ret (pe_tup (pa_cons (pe_cc C__law_long hr (by decide) (by rfl) (pa_cons (pv 0) pa_nil)) (pa_cons (pe_cc C__law_long hr (by decide) (by rfl) (pa_cons (pv 0) pa_nil)) pa_nil))))))))))), ?_⟩
  refine w_start (σ := [some _, none, none]) rfl ?_
  have sm : ∀ {x : Int} {j : Nat}, x.natAbs < 2 ^ j → j ≤ 300 → x.natAbs < 2 ^ 300 := fun h hj => abs_mono h hj
  have z0 : (0 : Int).natAbs < 2 ^ 300 := by decide +kernel
  have e3 : (100000 : Int) ^ Int.toNat 3 = 1000000000000000 := by decide +kernel
  have e4 : (100000 : Int) ^ Int.toNat 4 = 100000000000000000000 := by decide +kernel
  walk_at "go"
  refine ⟨b, 6, rfl, B, by decide, by decide +kernel, fun way H1 w0 w1 c1 B1 => ?_⟩
  walk_at "go"
  refine ite_d (fun h0 => ?_) (fun h0 => ?_)
  · walk_at "go"
    refine ⟨b, 41, rfl, B1, by decide, by decide +kernel, fun r H2 r0 r1 c2 B2 => ?_⟩
    walk_at "go"
    refine ⟨b, 25, rfl, B2, by decide, by decide +kernel, fun r2 H3 s0 s1 c3 B3 => ?_⟩
    walk_at "go"
    refine w_newT (show 2 ≤ sizeLine by decide) fun t H4 n4 c4 h4 => ?_
    exact q t _ _ H4 (sm (j := 10) (by omega) (by decide)) (sm (j := 10) (by omega) (by decide)) (((c1.trans c2).trans c3).trans0 c4) (B3.mono c4) (.of h4)
  walk_at "go"
  refine ite_d (fun h1 => ?_) (fun h1 => ?_)
  · walk_at "go"
    refine ⟨b, 3, rfl, B1, by decide, by decide, fun r H2 r0 r1 c2 B2 => ?_⟩
    rw [e3] at r1
    walk_at "go"
    refine ⟨b, _, rfl, B2, fun x H3 ex c3 B3 => ?_⟩
    have b1 : x.natAbs < 2 ^ 60 := by rcases ex with e | e <;> rw [e] <;> omega
    walk_at "go"
    refine ⟨b, 3, rfl, B3, by decide, by decide, fun r2 H4 s0 s1 c4 B4 => ?_⟩
    rw [e3] at s1
    have b2 : (r2 - 50000).natAbs < 2 ^ 70 := by omega
    walk_at "go"
    refine w_I (mul_ok b1 b2 (by decide)) ?_
    walk_at "go"
    refine ⟨b, 1000, rfl, B4, by decide, by decide +kernel, fun r3 H5 t0 t1 c5 B5 => ?_⟩
    have b3 : (1 + r3).natAbs < 2 ^ 20 := by omega
    walk_at "go"
    refine w_I (mul_ok b1 b3 (by decide)) ?_
    walk_at "go"
    refine w_newT (show 2 ≤ sizeLine by decide) fun t H6 n6 c6 h6 => ?_
    exact q t _ _ H6 (sm (mulb b1 b2) (by decide)) (sm (mulb b1 b3) (by decide)) (((((c1.trans c2).trans c3).trans c4).trans c5).trans0 c6) (B5.mono c6) (.of h6)
  walk_at "go"
  refine ite_d (fun h2 => ?_) (fun h2 => ?_)
  · walk_at "go"
    refine ⟨b, rfl, B1, fun x H2 bx c2 B2 => ?_⟩
    walk_at "go"
    refine w_newT (show 2 ≤ sizeLine by decide) fun t H4 n4 c4 h4 => ?_
    exact q t _ _ H4 (sm bx (by decide)) z0 ((c1.trans c2).trans0 c4) (B2.mono c4) (.of h4)
  walk_at "go"
  refine ite_d (fun h3 => ?_) (fun h3 => ?_)
  · walk_at "go"
    refine ⟨b, rfl, B1, fun x H2 bx c2 B2 => ?_⟩
    walk_at "go"
    refine w_newT (show 2 ≤ sizeLine by decide) fun t H4 n4 c4 h4 => ?_
    exact q t _ _ H4 z0 (sm bx (by decide)) ((c1.trans c2).trans0 c4) (B2.mono c4) (.of h4)
  walk_at "go"
  refine ite_d (fun h4 => ?_) (fun h4 => ?_)
  · walk_at "go"
    refine ⟨b, 1000, rfl, B1, by decide, by decide +kernel, fun r H2 r0 r1 c2 B2 => ?_⟩
    walk_at "go"
    refine ⟨b, _, rfl, B2, fun x H3 ex c3 B3 => ?_⟩
    have b1 : x.natAbs < 2 ^ 60 := by rcases ex with e | e <;> rw [e] <;> omega
    walk_at "go"
    refine ⟨b, 4, rfl, B3, by decide, by decide, fun r2 H4 s0 s1 c4 B4 => ?_⟩
    rw [e4] at s1
    have b2 : (r2 - 50000).natAbs < 2 ^ 70 := by omega
    walk_at "go"
    refine w_I (mul_ok b1 b2 (by decide)) ?_
    walk_at "go"
    refine w_newT (show 2 ≤ sizeLine by decide) fun t H6 n6 c6 h6 => ?_
    exact q t _ _ H6 (sm (mulb b1 b2) (by decide)) (sm b1 (by decide)) ((((c1.trans c2).trans c3).trans c4).trans0 c6) (B4.mono c6) (.of h6)
  walk_at "go"
  refine ⟨b, rfl, B1, fun u H2 bu c2 B2 => ?_⟩
  walk_at "go"
  refine ⟨b, rfl, B2, fun v H3 bv c3 B3 => ?_⟩
  walk_at "go"
  refine w_newT (show 2 ≤ sizeLine by decide) fun t H4 n4 c4 h4 => ?_
  exact q t _ _ H4 (sm bu (by decide)) (sm bv (by decide)) (((c1.trans c2).trans c3).trans0 c4) (B3.mono c4) (.of h4)
abbrev s__law_order_holds : Stmt := topS 60
theorem sc__law_order_holds : FnScope ["a", "b", "left", "right", "told"] ["a", "b"] (defScope s__law_order_holds) := ⟨rfl, rfl, rfl, by decide +kernel, rfl, by decide +kernel, by decide +kernel⟩
def sp__law_order_holds (K : PySem.W.Frag) : Sp := fun vs H Q _ => ∃ (a b : Addr) (n d m e : Int) (z : Nat), vs = [.ref a, .ref b] ∧ Fr K H a n d ∧ Fr K H b m e ∧ n.natAbs < 2 ^ z ∧ d.natAbs < 2 ^ z ∧ m.natAbs < 2 ^ z ∧ e.natAbs < 2 ^ z ∧ z ≤ 3000 ∧ Q (.bl true) H
theorem sgn_cmp (x y : Int) : sgn (x - y) = (if decide (y < x) = true then 1 else 0) - (if decide (x < y) = true then 1 else 0) := by
  rw [sgn_two]
  have a1 : decide (0 < x - y) = decide (y < x) := by
    by_cases h : y < x
    · rw [decide_eq_true h, decide_eq_true (by omega)]
    · rw [decide_eq_false h, decide_eq_false (by omega)]
  have a2 : decide (x - y < 0) = decide (x < y) := by
    by_cases h : x < y
    · rw [decide_eq_true h, decide_eq_true (by omega)]
    · rw [decide_eq_false h, decide_eq_false (by omega)]
  rw [a1, a2]
theorem c__law_order_holds (T : Txt mg) (C_compare : Cal P w K mg base 2 "compare" (sp_compare K)) (C__law_is_integer : Cal P w K mg base 1 "_law_is_integer" sp__law_is_integer) {f : Addr} {fd : FuncData} (F : DefF K mg "_law_order_holds" s__law_order_holds ["a", "b"] f fd) :
    Cal P w K mg base 3 "_law_order_holds" (sp__law_order_holds K) := by
  refine cal_of F sc__law_order_holds (fun vs H Q E h => by obtain ⟨_, _, _, _, _, _, _, rfl, _⟩ := h; rfl) (fun cdv A outer s H vs Q E hr h => ?_)
  obtain ⟨a, b, n, d, m, e, z, rfl, fa, fb, b1, b2, b3, b4, hz, q⟩ := h
  refine ⟨_, (pss_cons (ps_set (i := 2) sc__law_order_holds.nd rfl (Or.inl rfl) (pe_op op_mulG (pe_ix (k_ixT (K := K) rfl) (pv 0) pe_int (fun _ _ => rfl)) (pe_ix (k_ixT (K := K) rfl) (pv 1) pe_int (fun _ _ => rfl))))
 (pss_cons (ps_set (i := 3) sc__law_order_holds.nd rfl (Or.inl rfl) (pe_op op_mulG (pe_ix (k_ixT (K := K) rfl) (pv 1) pe_int (fun _ _ => rfl)) (pe_ix (k_ixT (K := K) rfl) (pv 0) pe_int (fun _ _ => rfl))))
 (pss_cons (ps_set (i := 4) sc__law_order_holds.nd rfl (Or.inl rfl) (pe_cc C_compare hr (by decide) (by rfl) (pa_cons (pv 0) (pa_cons (pv 1) pa_nil))))
 (pss_one (ps_ret (pe_and (pe_cc C__law_is_integer hr (by decide) (by rfl) (pa_cons (pv 4) pa_nil)) (pe_one (pe_cmpR op_eq (pv 4) (pe_op op_sub (pe_callTy cb_int (by rfl) T.z_int (by decide +kernel) (pa_cons (pe_cmpR op_gt (pv 2) (pv 3) (nomark _)) pa_nil)) (pe_callTy cb_int (by rfl) T.z_int (by decide +kernel) (pa_cons (pe_cmpR op_lt (pv 2) (pv 3) (nomark _)) pa_nil))) (nomark _))))))))), ?_⟩
  refine w_start (σ := [some _, some _, none, none, none]) rfl ?_
  walk_at "go"
  refine w_I (mul_ok b1 b4 (by omega)) ?_
  walk_at "go"
  refine w_I (mul_ok b3 b2 (by omega)) ?_
  walk_at "go"
  refine ⟨a, b, n, d, m, e, z, rfl, fa, fb, b1, b2, b3, b4, by omega, ?_⟩
  walk_at "go"
  refine ⟨_, rfl, ?_⟩
  walk_at "go"
  rw [if_pos rfl]
  walk_at "go"
  rw [decide_eq_true (sgn_cmp (n * e) (m * d))]
  exact q
abbrev s__law_floor_holds : Stmt := topS 61
theorem sc__law_floor_holds : FnScope ["a", "told"] ["a"] (defScope s__law_floor_holds) := ⟨rfl, rfl, rfl, by decide +kernel, rfl, by decide +kernel, by decide +kernel⟩
def sp__law_floor_holds (K : PySem.W.Frag) : Sp := fun vs H Q _ => ∃ (a : Addr) (n d : Int) (z : Nat), vs = [.ref a] ∧ Fr K H a n d ∧ 0 < d ∧ n.natAbs < 2 ^ z ∧ d.natAbs < 2 ^ z ∧ z ≤ 3000 ∧ Q (.bl true) H
theorem c__law_floor_holds (T : Txt mg) (C_floor : Cal P w K mg base 1 "floor" (sp_floor K)) (C__law_is_integer : Cal P w K mg base 1 "_law_is_integer" sp__law_is_integer) {f : Addr} {fd : FuncData} (F : DefF K mg "_law_floor_holds" s__law_floor_holds ["a"] f fd) :
    Cal P w K mg base 2 "_law_floor_holds" (sp__law_floor_holds K) := by
  refine cal_of F sc__law_floor_holds (fun vs H Q E h => by obtain ⟨_, _, _, _, rfl, _⟩ := h; rfl) (fun cdv A outer s H vs Q E hr h => ?_)
  obtain ⟨a, n, d, z, rfl, fa, d0, b1, b2, hz, q⟩ := h
  refine ⟨_, (pss_cons (ps_set (i := 1) sc__law_floor_holds.nd rfl (Or.inl rfl) (pe_cc C_floor hr (by decide) (by rfl) (pa_cons (pv 0) pa_nil)))
 (pss_one (ps_ret (pe_and (pe_cc C__law_is_integer hr (by decide) (by rfl) (pa_cons (pv 1) pa_nil)) (pe_and (pe_cmpR op_le (pe_op op_mulG (pv 1) (pe_ix (k_ixT (K := K) rfl) (pv 0) pe_int (fun _ _ => rfl))) (pe_ix (k_ixT (K := K) rfl) (pv 0) pe_int (fun _ _ => rfl)) (nomark _)) (pe_one (pe_cmpR op_lt (pe_ix (k_ixT (K := K) rfl) (pv 0) pe_int (fun _ _ => rfl)) (pe_op op_mulG (pe_op op_add (pv 1) pe_int) (pe_ix (k_ixT (K := K) rfl) (pv 0) pe_int (fun _ _ => rfl))) (nomark _)))))))), ?_⟩
  refine w_start (σ := [some _, none]) rfl ?_
  have e := Int.mul_fdiv_add_fmod n d
  have m0 := Int.fmod_nonneg_of_pos n d0
  have m1 := Int.fmod_lt_of_pos n d0
  have bf : (n.fdiv d).natAbs < 2 ^ (z + 1) ∧ (n.fdiv d + 1).natAbs < 2 ^ (z + 1) ∧ n.fdiv d * d ≤ n ∧ n < (n.fdiv d + 1) * d := by
    have c : d * n.fdiv d = n.fdiv d * d := Int.mul_comm _ _
    rw [Int.add_mul, Int.one_mul, Nat.pow_succ]
    by_cases k : 0 ≤ n.fdiv d
    · have l := mul_one_le k (show 1 ≤ d by omega)
      omega
    · have l := mul_one_le (show 0 ≤ -(n.fdiv d + 1) by omega) (show 1 ≤ d by omega)
      rw [Int.neg_mul, Int.add_mul, Int.one_mul] at l
      omega
  walk_at "go"
  refine ⟨a, n, d, z, rfl, fa, by omega, b2, by omega, ?_⟩
  walk_at "go"
  refine ⟨_, rfl, ?_⟩
  walk_at "go"
  rw [if_pos rfl]
  walk_at "go"
  refine w_I (mul_ok bf.1 b2 (by omega)) ?_
  walk_at "go"
  rw [decide_eq_true bf.2.2.1, if_pos rfl]
  walk_at "go"
  refine w_I (mul_ok bf.2.1 b2 (by omega)) ?_
  walk_at "go"
  rw [decide_eq_true bf.2.2.2]
  exact q
end
end My
namespace My
open PySem PySem.Spec PyProof.Rows L2
/-- top and bottom of the deed's result -/
def duT (deed n d m e : Int) : Int := if deed = 0 then n * e + m * d else if deed = 1 then n * e - m * d else if deed = 2 then n * m else n * e
def duB (deed n d m e : Int) : Int := if deed = 0 then d * e else if deed = 1 then d * e else if deed = 2 then d * e else d * m
section
variable {P : Program} {w : World} {K : PySem.W.Frag} {mg : Str → Option Value} {base : Heap}
abbrev s__law_due : Stmt := topS 58
theorem sc__law_due : FnScope ["deed", "a", "b"] ["deed", "a", "b"] (defScope s__law_due) := ⟨rfl, rfl, rfl, by decide +kernel, rfl, by decide +kernel, by decide +kernel⟩
def sp__law_due (K : PySem.W.Frag) : Sp := fun vs H Q _ => ∃ (a b : Addr) (deed n d m e : Int) (z : Nat), vs = [.int deed, .ref a, .ref b] ∧ Fr K H a n d ∧ Fr K H b m e ∧ 0 < d ∧ 0 < e ∧ n.natAbs < 2 ^ z ∧ d.natAbs < 2 ^ z ∧ m.natAbs < 2 ^ 300 ∧ e.natAbs < 2 ^ 300 ∧ z ≤ 1600 ∧ 0 ≤ deed ∧ deed ≤ 3 ∧ (deed = 3 → m ≠ 0) ∧
  ∀ (t : Addr) (x y : Int) H', Low (duT deed n d m e) (duB deed n d m e) x y → Ch [] H H' → Fr K H' t x y → Q (.ref t) H'
theorem c__law_due (C__law_lowest : Cal P w K mg base 2 "_law_lowest" (sp__law_lowest K)) {f : Addr} {fd : FuncData} (F : DefF K mg "_law_due" s__law_due ["deed", "a", "b"] f fd) : Cal P w K mg base 3 "_law_due" (sp__law_due K) := by
  refine cal_of F sc__law_due (fun vs H Q E h => by obtain ⟨_, _, _, _, _, _, _, _, rfl, _⟩ := h; rfl) (fun cdv A outer s H vs Q E hr h => ?_)
  obtain ⟨a, b, deed, n, d, m, e, z, rfl, fa, fb, d0, e0, b1, b2, b3, b4, hz, g0, g3, g, q⟩ := h
  refine ⟨_, (pss_cons (ps_if (pt_cmpR op_eq (pv 0) pe_int (nomark _)) (pss_one (ps_ret (pe_cc C__law_lowest hr (by decide) (by rfl) (pa_cons (pe_op op_add (pe_op op_mulG (pe_ix (k_ixT (K := K) rfl) (pv 1) pe_int (fun _ _ => rfl)) (pe_ix (k_ixT (K := K) rfl) (pv 2) pe_int (fun _ _ => rfl))) (pe_op op_mulG (pe_ix (k_ixT (K := K) rfl) (pv 2) pe_int (fun _ _ => rfl)) (pe_ix (k_ixT (K := K) rfl) (pv 1) pe_int (fun _ _ => rfl)))) (pa_cons (pe_op op_mulG (pe_ix (k_ixT (K := K) rfl) (pv 1) pe_int (fun _ _ => rfl)) (pe_ix (k_ixT (K := K) rfl) (pv 2) pe_int (fun _ _ => rfl))) pa_nil))))) pss_nil)
 (pss_cons (ps_if (pt_cmpR op_eq (pv 0) pe_int (nomark _)) (pss_one (ps_ret (pe_cc C__law_lowest hr (by decide) (by rfl) (pa_cons (pe_op op_sub (pe_op op_mulG (pe_ix (k_ixT (K := K) rfl) (pv 1) pe_int (fun _ _ => rfl)) (pe_ix (k_ixT (K := K) rfl) (pv 2) pe_int (fun _ _ => rfl))) (pe_op op_mulG (pe_ix (k_ixT (K := K) rfl) (pv 2) pe_int (fun _ _ => rfl)) (pe_ix (k_ixT (K := K) rfl) (pv 1) pe_int (fun _ _ => rfl)))) (pa_cons (pe_op op_mulG (pe_ix (k_ixT (K := K) rfl) (pv 1) pe_int (fun _ _ => rfl)) (pe_ix (k_ixT (K := K) rfl) (pv 2) pe_int (fun _ _ => rfl))) pa_nil))))) pss_nil)
 (pss_cons (ps_if (pt_cmpR op_eq (pv 0) pe_int (nomark _)) (pss_one (ps_ret (pe_cc C__law_lowest hr (by decide) (by rfl) (pa_cons (pe_op op_mulG (pe_ix (k_ixT (K := K) rfl) (pv 1) pe_int (fun _ _ => rfl)) (pe_ix (k_ixT (K := K) rfl) (pv 2) pe_int (fun _ _ => rfl))) (pa_cons (pe_op op_mulG (pe_ix (k_ixT (K := K) rfl) (pv 1) pe_int (fun _ _ => rfl)) (pe_ix (k_ixT (K := K) rfl) (pv 2) pe_int (fun _ _ => rfl))) pa_nil))))) pss_nil)
 (pss_one (ps_ret (pe_cc C__law_lowest hr (by decide) (by rfl) (pa_cons (pe_op op_mulG (pe_ix (k_ixT (K := K) rfl) (pv 1) pe_int (fun _ _ => rfl)) (pe_ix (k_ixT (K := K) rfl) (pv 2) pe_int (fun _ _ => rfl))) (pa_cons (pe_op op_mulG (pe_ix (k_ixT (K := K) rfl) (pv 1) pe_int (fun _ _ => rfl)) (pe_ix (k_ixT (K := K) rfl) (pv 2) pe_int (fun _ _ => rfl))) pa_nil)))))))), ?_⟩
  refine w_start (σ := [some _, some _, some _]) rfl ?_
  unfold duT duB at q
  have pe : 0 < d * e := Int.mul_pos d0 e0
  walk_at "go"
  refine ite_d (fun h0 => ?_) (fun h0 => ?_)
  · rw [if_pos h0, if_pos h0] at q
    walk_at "go"
    refine w_I (mul_ok b1 b4 (by omega)) ?_
    walk_at "go"
    refine w_I (mul_ok b3 b2 (by omega)) ?_
    walk_at "go"
    refine w_I (mul_ok b2 b4 (by omega)) ?_
    walk_at "go"
    exact ⟨_, _, rfl, by omega, abs_mono (mulb b2 b4) (by omega), fun t x y H' l c ft => q t x y H' l c ft⟩
  rw [if_neg h0, if_neg h0] at q
  walk_at "go"
  refine ite_d (fun h1 => ?_) (fun h1 => ?_)
  · rw [if_pos h1, if_pos h1] at q
    walk_at "go"
    refine w_I (mul_ok b1 b4 (by omega)) ?_
    walk_at "go"
    refine w_I (mul_ok b3 b2 (by omega)) ?_
    walk_at "go"
    refine w_I (mul_ok b2 b4 (by omega)) ?_
    walk_at "go"
    exact ⟨_, _, rfl, by omega, abs_mono (mulb b2 b4) (by omega), fun t x y H' l c ft => q t x y H' l c ft⟩
  rw [if_neg h1, if_neg h1] at q
  walk_at "go"
  refine ite_d (fun h2 => ?_) (fun h2 => ?_)
  · rw [if_pos h2, if_pos h2] at q
    walk_at "go"
    refine w_I (mul_ok b1 b3 (by omega)) ?_
    walk_at "go"
    refine w_I (mul_ok b2 b4 (by omega)) ?_
    walk_at "go"
    exact ⟨_, _, rfl, by omega, abs_mono (mulb b2 b4) (by omega), fun t x y H' l c ft => q t x y H' l c ft⟩
  rw [if_neg h2, if_neg h2] at q
  walk_at "go"
  refine w_I (mul_ok b1 b4 (by omega)) ?_
  walk_at "go"
  refine w_I (mul_ok b2 b3 (by omega)) ?_
  walk_at "go"
  exact ⟨_, _, rfl, Int.mul_ne_zero (by omega) (g (by omega)), abs_mono (mulb b2 b3) (by omega), fun t x y H' l c ft => q t x y H' l c ft⟩
end
end My
namespace My
open PySem PySem.Spec PyProof.Rows L2
section
variable {P : Program} {w : World} {K : PySem.W.Frag} {mg : Str → Option Value} {base : Heap}
abbrev s__law_done : Stmt := topS 59
theorem sc__law_done : FnScope ["deed", "a", "b"] ["deed", "a", "b"] (defScope s__law_done) := ⟨rfl, rfl, rfl, by decide +kernel, rfl, by decide +kernel, by decide +kernel⟩
def sp__law_done (K : PySem.W.Frag) : Sp := fun vs H Q _ => ∃ (a b : Addr) (deed n d m e : Int), vs = [.int deed, .ref a, .ref b] ∧ Fr K H a n d ∧ Fr K H b m e ∧ 0 < d ∧ 0 < e ∧ n.natAbs < 2 ^ 3000 ∧ d.natAbs < 2 ^ 3000 ∧ m.natAbs < 2 ^ 3000 ∧ e.natAbs < 2 ^ 3000 ∧ 0 ≤ deed ∧ deed ≤ 3 ∧ (deed = 3 → m ≠ 0) ∧
  ∀ (t : Addr) (x y : Int) H', Low (duT deed n d m e) (duB deed n d m e) x y → Ch [] H H' → Fr K H' t x y → Q (.ref t) H'
theorem c__law_done {A_DivisionByZero : Addr} (C_plus : Cal P w K mg base 2 "plus" (sp_two K fun n d m e => (n * e + m * d, d * e))) (C_minus : Cal P w K mg base 2 "minus" (sp_two K fun n d m e => (n * e - m * d, d * e))) (C_times : Cal P w K mg base 2 "times" (sp_two K fun n d m e => (n * m, d * e))) (C_over : CalN P w K mg base 2 "over" (sp_over K A_DivisionByZero))
    {f : Addr} {fd : FuncData} (F : DefF K mg "_law_done" s__law_done ["deed", "a", "b"] f fd) : Cal P w K mg base 3 "_law_done" (sp__law_done K) := by
  refine cal_of F sc__law_done (fun vs H Q E h => by obtain ⟨_, _, _, _, _, _, _, rfl, _⟩ := h; rfl) (fun cdv A outer s H vs Q E hr h => ?_)
  obtain ⟨a, b, deed, n, d, m, e, rfl, fa, fb, d0, e0, b1, b2, b3, b4, g0, g3, g, q⟩ := h
  refine ⟨_, (pss_cons (ps_if (pt_cmpR op_eq (pv 0) pe_int (nomark _)) (pss_one (ps_ret (pe_cc C_plus hr (by decide) (by rfl) (pa_cons (pv 1) (pa_cons (pv 2) pa_nil))))) pss_nil)
 (pss_cons (ps_if (pt_cmpR op_eq (pv 0) pe_int (nomark _)) (pss_one (ps_ret (pe_cc C_minus hr (by decide) (by rfl) (pa_cons (pv 1) (pa_cons (pv 2) pa_nil))))) pss_nil)
 (pss_cons (ps_if (pt_cmpR op_eq (pv 0) pe_int (nomark _)) (pss_one (ps_ret (pe_cc C_times hr (by decide) (by rfl) (pa_cons (pv 1) (pa_cons (pv 2) pa_nil))))) pss_nil)
 (pss_one (ps_ret (pe_ccN C_over hr (by decide) (by rfl) (pa_cons (pv 1) (pa_cons (pv 2) pa_nil)))))))), ?_⟩
  refine w_start (σ := [some _, some _, some _]) rfl ?_
  unfold duT duB at q
  walk_at "go"
  refine ite_d (fun h0 => ?_) (fun h0 => ?_)
  · rw [if_pos h0, if_pos h0] at q
    walk_at "go"
    exact ⟨a, b, n, d, m, e, 3000, rfl, fa, fb, d0, e0, b1, b2, b3, b4, by decide, q⟩
  rw [if_neg h0, if_neg h0] at q
  walk_at "go"
  refine ite_d (fun h1 => ?_) (fun h1 => ?_)
  · rw [if_pos h1, if_pos h1] at q
    walk_at "go"
    exact ⟨a, b, n, d, m, e, 3000, rfl, fa, fb, d0, e0, b1, b2, b3, b4, by decide, q⟩
  rw [if_neg h1, if_neg h1] at q
  walk_at "go"
  refine ite_d (fun h2 => ?_) (fun h2 => ?_)
  · rw [if_pos h2, if_pos h2] at q
    walk_at "go"
    exact ⟨a, b, n, d, m, e, 3000, rfl, fa, fb, d0, e0, b1, b2, b3, b4, by decide, q⟩
  rw [if_neg h2, if_neg h2] at q
  walk_at "go"
  exact ⟨a, b, n, d, m, e, 3000, rfl, fa, fb, d0, e0, b1, b2, b3, b4, by decide, fun z => absurd z (g (by omega)), fun _ => q⟩
end
end My
namespace My
open PySem PySem.Spec PyProof.Rows L2
section
variable {P : Program} {w : World} {K : PySem.W.Frag} {mg : Str → Option Value} {base : Heap}
abbrev s__law_number_is : Stmt := topS 69
theorem sc__law_number_is : FnScope ["told", "due"] ["told", "due"] (defScope s__law_number_is) := ⟨rfl, rfl, rfl, by decide +kernel, rfl, by decide +kernel, by decide +kernel⟩
def sp__law_number_is : Sp := fun vs H Q _ => ∃ x : Int, vs = [.int x, .int x] ∧ Q (.bl true) H
theorem c__law_number_is (C__law_is_integer : Cal P w K mg base 1 "_law_is_integer" sp__law_is_integer) {f : Addr} {fd : FuncData} (F : DefF K mg "_law_number_is" s__law_number_is ["told", "due"] f fd) : Cal P w K mg base 2 "_law_number_is" sp__law_number_is := by
  refine cal_of F sc__law_number_is (fun vs H Q E h => by obtain ⟨_, rfl, _⟩ := h; rfl) (fun cdv A outer s H vs Q E hr h => ?_)
  obtain ⟨x, rfl, q⟩ := h
  refine ⟨_, (pss_one (ps_ret (pe_and (pe_cc C__law_is_integer hr (by decide) (by rfl) (pa_cons (pv 0) pa_nil)) (pe_one (pe_cmpR op_eq (pv 0) (pv 1) (nomark _)))))), ?_⟩
  refine w_start (σ := [some _, some _]) rfl ?_
  walk_at "go"
  refine ⟨_, rfl, ?_⟩
  walk_at "go"
  rw [if_pos rfl]
  walk_at "go"
  rw [decide_eq_true rfl]
  exact q
end
end My
namespace My
open PySem PySem.Spec PyProof.Rows L2
/-- what _law_kinds tells of the n-th class -/
def kindsOf (n : Nat) : List V := (List.range 27).map fun i => .bl (decide (i = n))
theorem kinds_len {n : Nat} : (kindsOf n).length = 27 := rfl
theorem kinds_at {n i : Nat} (h : i < 27) : (kindsOf n)[i]? = some (.bl (decide (i = n))) := by
  unfold kindsOf
  rw [List.getElem?_map, List.getElem?_range h]
  rfl
theorem w_ixk {K : PySem.W.Frag} {H : Hp} {Q : VK} {a : Addr} {xs : List V} {i : Int} {k : Nat} {v : V} (h : H a = some (.lst xs)) (hk : i = (k : Int)) (e : xs[k]? = some v) (q : Q v H) : rIxL K (.ref a) (.int i) H Q := by
  subst hk
  exact w_ixL (.of h) (atI_nat e) q
section
variable {P : Program} {w : World} {K : PySem.W.Frag} {mg : Str → Option Value} {base : Heap}
abbrev s__law_kinds : Stmt := topS 66
theorem sc__law_kinds : FnScope ["failure", "kinds"] ["failure"] (defScope s__law_kinds) := ⟨rfl, rfl, rfl, by decide +kernel, rfl, by decide +kernel, by decide +kernel⟩
def sp__law_kinds (K : PySem.W.Frag) (as : List Addr) : Sp := fun vs H Q _ => ∃ (a D : Addr) (n : Nat), vs = [.ref a] ∧ as[n]? = some D ∧ Exv H a D ∧ ∀ l H', Ch [] H H' → H' l = some (.lst (kindsOf n)) → Q (.ref l) H'
def sp__law_kindsP (n : Nat) : Addr → Sp := fun a vs H Q _ => vs = [.ref a] ∧ ∀ l H', Ch [] H H' → H' l = some (.lst (kindsOf n)) → Q (.ref l) H'
theorem c__law_kinds {A_DivisionByZero A_ZeroPolynomial A_HasQuantifier A_NotOneUnknown A_NothingToUndo A_InvalidPoly A_InvalidStretch A_InvalidText A_InvalidUnknown A_NoUnknown A_HasFree A_Reducible A_NoRoot A_InvalidCode A_TooDeep A_TooLarge A_InvalidPiece A_NoPiece A_InvalidSpot A_Vanishes A_NoCell A_InvalidLine A_InvalidSave A_InvalidName A_Missing A_Circular A_NotASentence A_CellspireError : Addr} (T : Txt mg) (ET : ErrT K mg A_CellspireError [A_DivisionByZero, A_ZeroPolynomial, A_HasQuantifier, A_NotOneUnknown, A_NothingToUndo, A_InvalidPoly, A_InvalidStretch, A_InvalidText, A_InvalidUnknown, A_NoUnknown, A_HasFree, A_Reducible, A_NoRoot, A_InvalidCode, A_TooDeep, A_TooLarge, A_InvalidPiece, A_NoPiece, A_InvalidSpot, A_Vanishes, A_NoCell, A_InvalidLine, A_InvalidSave, A_InvalidName, A_Missing, A_Circular, A_NotASentence]) {f : Addr} {fd : FuncData} (F : DefF K mg "_law_kinds" s__law_kinds ["failure"] f fd) : Cal P w K mg base 1 "_law_kinds" (sp__law_kinds K [A_DivisionByZero, A_ZeroPolynomial, A_HasQuantifier, A_NotOneUnknown, A_NothingToUndo, A_InvalidPoly, A_InvalidStretch, A_InvalidText, A_InvalidUnknown, A_NoUnknown, A_HasFree, A_Reducible, A_NoRoot, A_InvalidCode, A_TooDeep, A_TooLarge, A_InvalidPiece, A_NoPiece, A_InvalidSpot, A_Vanishes, A_NoCell, A_InvalidLine, A_InvalidSave, A_InvalidName, A_Missing, A_Circular, A_NotASentence]) := by
  have G_DivisionByZero : mg "DivisionByZero" = some (.ref A_DivisionByZero) := ET.g (i := 0) rfl rfl
  have G_ZeroPolynomial : mg "ZeroPolynomial" = some (.ref A_ZeroPolynomial) := ET.g (i := 1) rfl rfl
  have G_HasQuantifier : mg "HasQuantifier" = some (.ref A_HasQuantifier) := ET.g (i := 2) rfl rfl
  have G_NotOneUnknown : mg "NotOneUnknown" = some (.ref A_NotOneUnknown) := ET.g (i := 3) rfl rfl
  have G_NothingToUndo : mg "NothingToUndo" = some (.ref A_NothingToUndo) := ET.g (i := 4) rfl rfl
  have G_InvalidPoly : mg "InvalidPoly" = some (.ref A_InvalidPoly) := ET.g (i := 5) rfl rfl
  have G_InvalidStretch : mg "InvalidStretch" = some (.ref A_InvalidStretch) := ET.g (i := 6) rfl rfl
  have G_InvalidText : mg "InvalidText" = some (.ref A_InvalidText) := ET.g (i := 7) rfl rfl
  have G_InvalidUnknown : mg "InvalidUnknown" = some (.ref A_InvalidUnknown) := ET.g (i := 8) rfl rfl
  have G_NoUnknown : mg "NoUnknown" = some (.ref A_NoUnknown) := ET.g (i := 9) rfl rfl
  have G_HasFree : mg "HasFree" = some (.ref A_HasFree) := ET.g (i := 10) rfl rfl
  have G_Reducible : mg "Reducible" = some (.ref A_Reducible) := ET.g (i := 11) rfl rfl
  have G_NoRoot : mg "NoRoot" = some (.ref A_NoRoot) := ET.g (i := 12) rfl rfl
  have G_InvalidCode : mg "InvalidCode" = some (.ref A_InvalidCode) := ET.g (i := 13) rfl rfl
  have G_TooDeep : mg "TooDeep" = some (.ref A_TooDeep) := ET.g (i := 14) rfl rfl
  have G_TooLarge : mg "TooLarge" = some (.ref A_TooLarge) := ET.g (i := 15) rfl rfl
  have G_InvalidPiece : mg "InvalidPiece" = some (.ref A_InvalidPiece) := ET.g (i := 16) rfl rfl
  have G_NoPiece : mg "NoPiece" = some (.ref A_NoPiece) := ET.g (i := 17) rfl rfl
  have G_InvalidSpot : mg "InvalidSpot" = some (.ref A_InvalidSpot) := ET.g (i := 18) rfl rfl
  have G_Vanishes : mg "Vanishes" = some (.ref A_Vanishes) := ET.g (i := 19) rfl rfl
  have G_NoCell : mg "NoCell" = some (.ref A_NoCell) := ET.g (i := 20) rfl rfl
  have G_InvalidLine : mg "InvalidLine" = some (.ref A_InvalidLine) := ET.g (i := 21) rfl rfl
  have G_InvalidSave : mg "InvalidSave" = some (.ref A_InvalidSave) := ET.g (i := 22) rfl rfl
  have G_InvalidName : mg "InvalidName" = some (.ref A_InvalidName) := ET.g (i := 23) rfl rfl
  have G_Missing : mg "Missing" = some (.ref A_Missing) := ET.g (i := 24) rfl rfl
  have G_Circular : mg "Circular" = some (.ref A_Circular) := ET.g (i := 25) rfl rfl
  have G_NotASentence : mg "NotASentence" = some (.ref A_NotASentence) := ET.g (i := 26) rfl rfl
  have G_CellspireError := ET.gE
  refine cal_of F sc__law_kinds (fun vs H Q E h => by obtain ⟨_, _, _, rfl, _⟩ := h; rfl) (fun cdv A outer s H vs Q E hr h => ?_)
  obtain ⟨a, D, n, rfl, hn, v, q⟩ := h
  refine ⟨_, (pss_cons (ps_set (i := 1) sc__law_kinds.nd rfl (Or.inl rfl) (pe_lst (pa_cons (pe_callB (k_isV (K := K) rfl) (by rfl) T.z_isinstance (by decide +kernel) (pa_cons (pv 0) (pa_cons (pe_glob (v := .ref A_DivisionByZero) (by rfl) G_DivisionByZero rfl) pa_nil))) (pa_cons (pe_callB (k_isV (K := K) rfl) (by rfl) T.z_isinstance (by decide +kernel) (pa_cons (pv 0) (pa_cons (pe_glob (v := .ref A_ZeroPolynomial) (by rfl) G_ZeroPolynomial rfl) pa_nil))) pa_nil))))
 (pss_cons (ps_set (i := 1) sc__law_kinds.nd rfl (Or.inl rfl) (pe_op op_cat (pv 1) (pe_lst (pa_cons (pe_callB (k_isV (K := K) rfl) (by rfl) T.z_isinstance (by decide +kernel) (pa_cons (pv 0) (pa_cons (pe_glob (v := .ref A_HasQuantifier) (by rfl) G_HasQuantifier rfl) pa_nil))) (pa_cons (pe_callB (k_isV (K := K) rfl) (by rfl) T.z_isinstance (by decide +kernel) (pa_cons (pv 0) (pa_cons (pe_glob (v := .ref A_NotOneUnknown) (by rfl) G_NotOneUnknown rfl) pa_nil))) pa_nil)))))
 (pss_cons (ps_set (i := 1) sc__law_kinds.nd rfl (Or.inl rfl) (pe_op op_cat (pv 1) (pe_lst (pa_cons (pe_callB (k_isV (K := K) rfl) (by rfl) T.z_isinstance (by decide +kernel) (pa_cons (pv 0) (pa_cons (pe_glob (v := .ref A_NothingToUndo) (by rfl) G_NothingToUndo rfl) pa_nil))) (pa_cons (pe_callB (k_isV (K := K) rfl) (by rfl) T.z_isinstance (by decide +kernel) (pa_cons (pv 0) (pa_cons (pe_glob (v := .ref A_InvalidPoly) (by rfl) G_InvalidPoly rfl) pa_nil))) pa_nil)))))
 (pss_cons (ps_set (i := 1) sc__law_kinds.nd rfl (Or.inl rfl) (pe_op op_cat (pv 1) (pe_lst (pa_cons (pe_callB (k_isV (K := K) rfl) (by rfl) T.z_isinstance (by decide +kernel) (pa_cons (pv 0) (pa_cons (pe_glob (v := .ref A_InvalidStretch) (by rfl) G_InvalidStretch rfl) pa_nil))) (pa_cons (pe_callB (k_isV (K := K) rfl) (by rfl) T.z_isinstance (by decide +kernel) (pa_cons (pv 0) (pa_cons (pe_glob (v := .ref A_InvalidText) (by rfl) G_InvalidText rfl) pa_nil))) pa_nil)))))
 (pss_cons (ps_set (i := 1) sc__law_kinds.nd rfl (Or.inl rfl) (pe_op op_cat (pv 1) (pe_lst (pa_cons (pe_callB (k_isV (K := K) rfl) (by rfl) T.z_isinstance (by decide +kernel) (pa_cons (pv 0) (pa_cons (pe_glob (v := .ref A_InvalidUnknown) (by rfl) G_InvalidUnknown rfl) pa_nil))) (pa_cons (pe_callB (k_isV (K := K) rfl) (by rfl) T.z_isinstance (by decide +kernel) (pa_cons (pv 0) (pa_cons (pe_glob (v := .ref A_NoUnknown) (by rfl) G_NoUnknown rfl) pa_nil))) pa_nil)))))
 (pss_cons (ps_set (i := 1) sc__law_kinds.nd rfl (Or.inl rfl) (pe_op op_cat (pv 1) (pe_lst (pa_cons (pe_callB (k_isV (K := K) rfl) (by rfl) T.z_isinstance (by decide +kernel) (pa_cons (pv 0) (pa_cons (pe_glob (v := .ref A_HasFree) (by rfl) G_HasFree rfl) pa_nil))) (pa_cons (pe_callB (k_isV (K := K) rfl) (by rfl) T.z_isinstance (by decide +kernel) (pa_cons (pv 0) (pa_cons (pe_glob (v := .ref A_Reducible) (by rfl) G_Reducible rfl) pa_nil))) pa_nil)))))
 (pss_cons (ps_set (i := 1) sc__law_kinds.nd rfl (Or.inl rfl) (pe_op op_cat (pv 1) (pe_lst (pa_cons (pe_callB (k_isV (K := K) rfl) (by rfl) T.z_isinstance (by decide +kernel) (pa_cons (pv 0) (pa_cons (pe_glob (v := .ref A_NoRoot) (by rfl) G_NoRoot rfl) pa_nil))) (pa_cons (pe_callB (k_isV (K := K) rfl) (by rfl) T.z_isinstance (by decide +kernel) (pa_cons (pv 0) (pa_cons (pe_glob (v := .ref A_InvalidCode) (by rfl) G_InvalidCode rfl) pa_nil))) pa_nil)))))
 (pss_cons (ps_set (i := 1) sc__law_kinds.nd rfl (Or.inl rfl) (pe_op op_cat (pv 1) (pe_lst (pa_cons (pe_callB (k_isV (K := K) rfl) (by rfl) T.z_isinstance (by decide +kernel) (pa_cons (pv 0) (pa_cons (pe_glob (v := .ref A_TooDeep) (by rfl) G_TooDeep rfl) pa_nil))) (pa_cons (pe_callB (k_isV (K := K) rfl) (by rfl) T.z_isinstance (by decide +kernel) (pa_cons (pv 0) (pa_cons (pe_glob (v := .ref A_TooLarge) (by rfl) G_TooLarge rfl) pa_nil))) pa_nil)))))
 (pss_cons (ps_set (i := 1) sc__law_kinds.nd rfl (Or.inl rfl) (pe_op op_cat (pv 1) (pe_lst (pa_cons (pe_callB (k_isV (K := K) rfl) (by rfl) T.z_isinstance (by decide +kernel) (pa_cons (pv 0) (pa_cons (pe_glob (v := .ref A_InvalidPiece) (by rfl) G_InvalidPiece rfl) pa_nil))) (pa_cons (pe_callB (k_isV (K := K) rfl) (by rfl) T.z_isinstance (by decide +kernel) (pa_cons (pv 0) (pa_cons (pe_glob (v := .ref A_NoPiece) (by rfl) G_NoPiece rfl) pa_nil))) pa_nil)))))
 (pss_cons (ps_set (i := 1) sc__law_kinds.nd rfl (Or.inl rfl) (pe_op op_cat (pv 1) (pe_lst (pa_cons (pe_callB (k_isV (K := K) rfl) (by rfl) T.z_isinstance (by decide +kernel) (pa_cons (pv 0) (pa_cons (pe_glob (v := .ref A_InvalidSpot) (by rfl) G_InvalidSpot rfl) pa_nil))) (pa_cons (pe_callB (k_isV (K := K) rfl) (by rfl) T.z_isinstance (by decide +kernel) (pa_cons (pv 0) (pa_cons (pe_glob (v := .ref A_Vanishes) (by rfl) G_Vanishes rfl) pa_nil))) pa_nil)))))
 (pss_cons (ps_set (i := 1) sc__law_kinds.nd rfl (Or.inl rfl) (pe_op op_cat (pv 1) (pe_lst (pa_cons (pe_callB (k_isV (K := K) rfl) (by rfl) T.z_isinstance (by decide +kernel) (pa_cons (pv 0) (pa_cons (pe_glob (v := .ref A_NoCell) (by rfl) G_NoCell rfl) pa_nil))) (pa_cons (pe_callB (k_isV (K := K) rfl) (by rfl) T.z_isinstance (by decide +kernel) (pa_cons (pv 0) (pa_cons (pe_glob (v := .ref A_InvalidLine) (by rfl) G_InvalidLine rfl) pa_nil))) pa_nil)))))
 (pss_cons (ps_set (i := 1) sc__law_kinds.nd rfl (Or.inl rfl) (pe_op op_cat (pv 1) (pe_lst (pa_cons (pe_callB (k_isV (K := K) rfl) (by rfl) T.z_isinstance (by decide +kernel) (pa_cons (pv 0) (pa_cons (pe_glob (v := .ref A_InvalidSave) (by rfl) G_InvalidSave rfl) pa_nil))) (pa_cons (pe_callB (k_isV (K := K) rfl) (by rfl) T.z_isinstance (by decide +kernel) (pa_cons (pv 0) (pa_cons (pe_glob (v := .ref A_InvalidName) (by rfl) G_InvalidName rfl) pa_nil))) pa_nil)))))
 (pss_cons (ps_set (i := 1) sc__law_kinds.nd rfl (Or.inl rfl) (pe_op op_cat (pv 1) (pe_lst (pa_cons (pe_callB (k_isV (K := K) rfl) (by rfl) T.z_isinstance (by decide +kernel) (pa_cons (pv 0) (pa_cons (pe_glob (v := .ref A_Missing) (by rfl) G_Missing rfl) pa_nil))) (pa_cons (pe_callB (k_isV (K := K) rfl) (by rfl) T.z_isinstance (by decide +kernel) (pa_cons (pv 0) (pa_cons (pe_glob (v := .ref A_Circular) (by rfl) G_Circular rfl) pa_nil))) pa_nil)))))
 (pss_one (ps_ret (pe_op op_cat (pv 1) (pe_lst (pa_cons (pe_callB (k_isV (K := K) rfl) (by rfl) T.z_isinstance (by decide +kernel) (pa_cons (pv 0) (pa_cons (pe_glob (v := .ref A_NotASentence) (by rfl) G_NotASentence rfl) pa_nil))) pa_nil)))))))))))))))))), ?_⟩
  refine w_start (σ := [some _, none]) rfl ?_
  walk_at "go"
  refine w_isV ET hn v (i := 0) rfl ?_
  walk_at "go"
  refine w_isV ET hn v (i := 1) rfl ?_
  walk_at "go"
  refine w_newL (show 2 ≤ sizeLine by decide) fun l H1 n1 c1 h1 => ?_
  have c := c1
  have h := h1
  walk_at "go"
  refine w_isV ET hn (v.ch c) (i := 2) rfl ?_
  walk_at "go"
  refine w_isV ET hn (v.ch c) (i := 3) rfl ?_
  walk_at "go"
  refine w_newL (show 2 ≤ sizeLine by decide) fun p Hp np cp hp => ?_
  walk_at "go"
  refine w_cat (cp.at0 h) hp (show 2 + 2 ≤ sizeLine by decide) fun l Hl nl cl hl => ?_
  have c := (c.trans cp).trans cl
  have h := hl
  clear hl np nl hp
  walk_at "go"
  refine w_isV ET hn (v.ch c) (i := 4) rfl ?_
  walk_at "go"
  refine w_isV ET hn (v.ch c) (i := 5) rfl ?_
  walk_at "go"
  refine w_newL (show 2 ≤ sizeLine by decide) fun p Hp np cp hp => ?_
  walk_at "go"
  refine w_cat (cp.at0 h) hp (show 4 + 2 ≤ sizeLine by decide) fun l Hl nl cl hl => ?_
  have c := (c.trans cp).trans cl
  have h := hl
  clear hl np nl hp
  walk_at "go"
  refine w_isV ET hn (v.ch c) (i := 6) rfl ?_
  walk_at "go"
  refine w_isV ET hn (v.ch c) (i := 7) rfl ?_
  walk_at "go"
  refine w_newL (show 2 ≤ sizeLine by decide) fun p Hp np cp hp => ?_
  walk_at "go"
  refine w_cat (cp.at0 h) hp (show 6 + 2 ≤ sizeLine by decide) fun l Hl nl cl hl => ?_
  have c := (c.trans cp).trans cl
  have h := hl
  clear hl np nl hp
  walk_at "go"
  refine w_isV ET hn (v.ch c) (i := 8) rfl ?_
  walk_at "go"
  refine w_isV ET hn (v.ch c) (i := 9) rfl ?_
  walk_at "go"
  refine w_newL (show 2 ≤ sizeLine by decide) fun p Hp np cp hp => ?_
  walk_at "go"
  refine w_cat (cp.at0 h) hp (show 8 + 2 ≤ sizeLine by decide) fun l Hl nl cl hl => ?_
  have c := (c.trans cp).trans cl
  have h := hl
  clear hl np nl hp
  walk_at "go"
  refine w_isV ET hn (v.ch c) (i := 10) rfl ?_
  walk_at "go"
  refine w_isV ET hn (v.ch c) (i := 11) rfl ?_
  walk_at "go"
  refine w_newL (show 2 ≤ sizeLine by decide) fun p Hp np cp hp => ?_
  walk_at "go"
  refine w_cat (cp.at0 h) hp (show 10 + 2 ≤ sizeLine by decide) fun l Hl nl cl hl => ?_
  have c := (c.trans cp).trans cl
  have h := hl
  clear hl np nl hp
  walk_at "go"
  refine w_isV ET hn (v.ch c) (i := 12) rfl ?_
  walk_at "go"
  refine w_isV ET hn (v.ch c) (i := 13) rfl ?_
  walk_at "go"
  refine w_newL (show 2 ≤ sizeLine by decide) fun p Hp np cp hp => ?_
  walk_at "go"
  refine w_cat (cp.at0 h) hp (show 12 + 2 ≤ sizeLine by decide) fun l Hl nl cl hl => ?_
  have c := (c.trans cp).trans cl
  have h := hl
  clear hl np nl hp
  walk_at "go"
  refine w_isV ET hn (v.ch c) (i := 14) rfl ?_
  walk_at "go"
  refine w_isV ET hn (v.ch c) (i := 15) rfl ?_
  walk_at "go"
  refine w_newL (show 2 ≤ sizeLine by decide) fun p Hp np cp hp => ?_
  walk_at "go"
  refine w_cat (cp.at0 h) hp (show 14 + 2 ≤ sizeLine by decide) fun l Hl nl cl hl => ?_
  have c := (c.trans cp).trans cl
  have h := hl
  clear hl np nl hp
  walk_at "go"
  refine w_isV ET hn (v.ch c) (i := 16) rfl ?_
  walk_at "go"
  refine w_isV ET hn (v.ch c) (i := 17) rfl ?_
  walk_at "go"
  refine w_newL (show 2 ≤ sizeLine by decide) fun p Hp np cp hp => ?_
  walk_at "go"
  refine w_cat (cp.at0 h) hp (show 16 + 2 ≤ sizeLine by decide) fun l Hl nl cl hl => ?_
  have c := (c.trans cp).trans cl
  have h := hl
  clear hl np nl hp
  walk_at "go"
  refine w_isV ET hn (v.ch c) (i := 18) rfl ?_
  walk_at "go"
  refine w_isV ET hn (v.ch c) (i := 19) rfl ?_
  walk_at "go"
  refine w_newL (show 2 ≤ sizeLine by decide) fun p Hp np cp hp => ?_
  walk_at "go"
  refine w_cat (cp.at0 h) hp (show 18 + 2 ≤ sizeLine by decide) fun l Hl nl cl hl => ?_
  have c := (c.trans cp).trans cl
  have h := hl
  clear hl np nl hp
  walk_at "go"
  refine w_isV ET hn (v.ch c) (i := 20) rfl ?_
  walk_at "go"
  refine w_isV ET hn (v.ch c) (i := 21) rfl ?_
  walk_at "go"
  refine w_newL (show 2 ≤ sizeLine by decide) fun p Hp np cp hp => ?_
  walk_at "go"
  refine w_cat (cp.at0 h) hp (show 20 + 2 ≤ sizeLine by decide) fun l Hl nl cl hl => ?_
  have c := (c.trans cp).trans cl
  have h := hl
  clear hl np nl hp
  walk_at "go"
  refine w_isV ET hn (v.ch c) (i := 22) rfl ?_
  walk_at "go"
  refine w_isV ET hn (v.ch c) (i := 23) rfl ?_
  walk_at "go"
  refine w_newL (show 2 ≤ sizeLine by decide) fun p Hp np cp hp => ?_
  walk_at "go"
  refine w_cat (cp.at0 h) hp (show 22 + 2 ≤ sizeLine by decide) fun l Hl nl cl hl => ?_
  have c := (c.trans cp).trans cl
  have h := hl
  clear hl np nl hp
  walk_at "go"
  refine w_isV ET hn (v.ch c) (i := 24) rfl ?_
  walk_at "go"
  refine w_isV ET hn (v.ch c) (i := 25) rfl ?_
  walk_at "go"
  refine w_newL (show 2 ≤ sizeLine by decide) fun p Hp np cp hp => ?_
  walk_at "go"
  refine w_cat (cp.at0 h) hp (show 24 + 2 ≤ sizeLine by decide) fun l Hl nl cl hl => ?_
  have c := (c.trans cp).trans cl
  have h := hl
  clear hl np nl hp
  walk_at "go"
  refine w_isV ET hn (v.ch c) (i := 26) rfl ?_
  walk_at "go"
  refine w_newL (show 1 ≤ sizeLine by decide) fun p Hp np cp hp => ?_
  walk_at "go"
  refine w_cat (cp.at0 h) hp (show 26 + 1 ≤ sizeLine by decide) fun l Hl nl cl hl => ?_
  exact q l Hl ((c.trans cp).trans cl) hl
theorem p__law_kinds {A_DivisionByZero A_ZeroPolynomial A_HasQuantifier A_NotOneUnknown A_NothingToUndo A_InvalidPoly A_InvalidStretch A_InvalidText A_InvalidUnknown A_NoUnknown A_HasFree A_Reducible A_NoRoot A_InvalidCode A_TooDeep A_TooLarge A_InvalidPiece A_NoPiece A_InvalidSpot A_Vanishes A_NoCell A_InvalidLine A_InvalidSave A_InvalidName A_Missing A_Circular A_NotASentence A_CellspireError D : Addr} (n : Nat) (T : Txt mg) (ET : ErrT K mg A_CellspireError [A_DivisionByZero, A_ZeroPolynomial, A_HasQuantifier, A_NotOneUnknown, A_NothingToUndo, A_InvalidPoly, A_InvalidStretch, A_InvalidText, A_InvalidUnknown, A_NoUnknown, A_HasFree, A_Reducible, A_NoRoot, A_InvalidCode, A_TooDeep, A_TooLarge, A_InvalidPiece, A_NoPiece, A_InvalidSpot, A_Vanishes, A_NoCell, A_InvalidLine, A_InvalidSave, A_InvalidName, A_Missing, A_Circular, A_NotASentence]) (hn : [A_DivisionByZero, A_ZeroPolynomial, A_HasQuantifier, A_NotOneUnknown, A_NothingToUndo, A_InvalidPoly, A_InvalidStretch, A_InvalidText, A_InvalidUnknown, A_NoUnknown, A_HasFree, A_Reducible, A_NoRoot, A_InvalidCode, A_TooDeep, A_TooLarge, A_InvalidPiece, A_NoPiece, A_InvalidSpot, A_Vanishes, A_NoCell, A_InvalidLine, A_InvalidSave, A_InvalidName, A_Missing, A_Circular, A_NotASentence][n]? = some D) {f : Addr} {fd : FuncData} (F : DefF K mg "_law_kinds" s__law_kinds ["failure"] f fd) : CalP P w K mg base 1 D "_law_kinds" (sp__law_kindsP n) := by
  have G_DivisionByZero : mg "DivisionByZero" = some (.ref A_DivisionByZero) := ET.g (i := 0) rfl rfl
  have G_ZeroPolynomial : mg "ZeroPolynomial" = some (.ref A_ZeroPolynomial) := ET.g (i := 1) rfl rfl
  have G_HasQuantifier : mg "HasQuantifier" = some (.ref A_HasQuantifier) := ET.g (i := 2) rfl rfl
  have G_NotOneUnknown : mg "NotOneUnknown" = some (.ref A_NotOneUnknown) := ET.g (i := 3) rfl rfl
  have G_NothingToUndo : mg "NothingToUndo" = some (.ref A_NothingToUndo) := ET.g (i := 4) rfl rfl
  have G_InvalidPoly : mg "InvalidPoly" = some (.ref A_InvalidPoly) := ET.g (i := 5) rfl rfl
  have G_InvalidStretch : mg "InvalidStretch" = some (.ref A_InvalidStretch) := ET.g (i := 6) rfl rfl
  have G_InvalidText : mg "InvalidText" = some (.ref A_InvalidText) := ET.g (i := 7) rfl rfl
  have G_InvalidUnknown : mg "InvalidUnknown" = some (.ref A_InvalidUnknown) := ET.g (i := 8) rfl rfl
  have G_NoUnknown : mg "NoUnknown" = some (.ref A_NoUnknown) := ET.g (i := 9) rfl rfl
  have G_HasFree : mg "HasFree" = some (.ref A_HasFree) := ET.g (i := 10) rfl rfl
  have G_Reducible : mg "Reducible" = some (.ref A_Reducible) := ET.g (i := 11) rfl rfl
  have G_NoRoot : mg "NoRoot" = some (.ref A_NoRoot) := ET.g (i := 12) rfl rfl
  have G_InvalidCode : mg "InvalidCode" = some (.ref A_InvalidCode) := ET.g (i := 13) rfl rfl
  have G_TooDeep : mg "TooDeep" = some (.ref A_TooDeep) := ET.g (i := 14) rfl rfl
  have G_TooLarge : mg "TooLarge" = some (.ref A_TooLarge) := ET.g (i := 15) rfl rfl
  have G_InvalidPiece : mg "InvalidPiece" = some (.ref A_InvalidPiece) := ET.g (i := 16) rfl rfl
  have G_NoPiece : mg "NoPiece" = some (.ref A_NoPiece) := ET.g (i := 17) rfl rfl
  have G_InvalidSpot : mg "InvalidSpot" = some (.ref A_InvalidSpot) := ET.g (i := 18) rfl rfl
  have G_Vanishes : mg "Vanishes" = some (.ref A_Vanishes) := ET.g (i := 19) rfl rfl
  have G_NoCell : mg "NoCell" = some (.ref A_NoCell) := ET.g (i := 20) rfl rfl
  have G_InvalidLine : mg "InvalidLine" = some (.ref A_InvalidLine) := ET.g (i := 21) rfl rfl
  have G_InvalidSave : mg "InvalidSave" = some (.ref A_InvalidSave) := ET.g (i := 22) rfl rfl
  have G_InvalidName : mg "InvalidName" = some (.ref A_InvalidName) := ET.g (i := 23) rfl rfl
  have G_Missing : mg "Missing" = some (.ref A_Missing) := ET.g (i := 24) rfl rfl
  have G_Circular : mg "Circular" = some (.ref A_Circular) := ET.g (i := 25) rfl rfl
  have G_NotASentence : mg "NotASentence" = some (.ref A_NotASentence) := ET.g (i := 26) rfl rfl
  have G_CellspireError := ET.gE
  have XC := ET.x hn
  refine cal_ofP F sc__law_kinds (fun a vs H Q E h => by obtain ⟨rfl, _⟩ := h; rfl) (fun cdv A outer s H vs Q E pp hot zc hr h => ?_)
  obtain ⟨rfl, q⟩ := h
  have hp : HotP (L2H.cxH (L2.CX P w) P w K mg base ["failure", "kinds"] "_law_kinds" (defScope s__law_kinds) f cdv A outer s H E pp).nox pp.1 D := ⟨pp, rfl, ⟨hot.1, hot.2⟩, List.mem_singleton.mpr rfl, zc⟩
  refine ⟨_, (pss_cons (ps_set (i := 1) sc__law_kinds.nd rfl (Or.inl rfl) (pe_lst (pa_cons (pe_callB (k_isP (K := K) rfl XC hp) (by rfl) T.z_isinstance (by decide +kernel) (pa_cons (pv 0) (pa_cons (pe_glob (v := .ref A_DivisionByZero) (by rfl) G_DivisionByZero rfl) pa_nil))) (pa_cons (pe_callB (k_isP (K := K) rfl XC hp) (by rfl) T.z_isinstance (by decide +kernel) (pa_cons (pv 0) (pa_cons (pe_glob (v := .ref A_ZeroPolynomial) (by rfl) G_ZeroPolynomial rfl) pa_nil))) pa_nil))))
 (pss_cons (ps_set (i := 1) sc__law_kinds.nd rfl (Or.inl rfl) (pe_op op_cat (pv 1) (pe_lst (pa_cons (pe_callB (k_isP (K := K) rfl XC hp) (by rfl) T.z_isinstance (by decide +kernel) (pa_cons (pv 0) (pa_cons (pe_glob (v := .ref A_HasQuantifier) (by rfl) G_HasQuantifier rfl) pa_nil))) (pa_cons (pe_callB (k_isP (K := K) rfl XC hp) (by rfl) T.z_isinstance (by decide +kernel) (pa_cons (pv 0) (pa_cons (pe_glob (v := .ref A_NotOneUnknown) (by rfl) G_NotOneUnknown rfl) pa_nil))) pa_nil)))))
 (pss_cons (ps_set (i := 1) sc__law_kinds.nd rfl (Or.inl rfl) (pe_op op_cat (pv 1) (pe_lst (pa_cons (pe_callB (k_isP (K := K) rfl XC hp) (by rfl) T.z_isinstance (by decide +kernel) (pa_cons (pv 0) (pa_cons (pe_glob (v := .ref A_NothingToUndo) (by rfl) G_NothingToUndo rfl) pa_nil))) (pa_cons (pe_callB (k_isP (K := K) rfl XC hp) (by rfl) T.z_isinstance (by decide +kernel) (pa_cons (pv 0) (pa_cons (pe_glob (v := .ref A_InvalidPoly) (by rfl) G_InvalidPoly rfl) pa_nil))) pa_nil)))))
 (pss_cons (ps_set (i := 1) sc__law_kinds.nd rfl (Or.inl rfl) (pe_op op_cat (pv 1) (pe_lst (pa_cons (pe_callB (k_isP (K := K) rfl XC hp) (by rfl) T.z_isinstance (by decide +kernel) (pa_cons (pv 0) (pa_cons (pe_glob (v := .ref A_InvalidStretch) (by rfl) G_InvalidStretch rfl) pa_nil))) (pa_cons (pe_callB (k_isP (K := K) rfl XC hp) (by rfl) T.z_isinstance (by decide +kernel) (pa_cons (pv 0) (pa_cons (pe_glob (v := .ref A_InvalidText) (by rfl) G_InvalidText rfl) pa_nil))) pa_nil)))))
 (pss_cons (ps_set (i := 1) sc__law_kinds.nd rfl (Or.inl rfl) (pe_op op_cat (pv 1) (pe_lst (pa_cons (pe_callB (k_isP (K := K) rfl XC hp) (by rfl) T.z_isinstance (by decide +kernel) (pa_cons (pv 0) (pa_cons (pe_glob (v := .ref A_InvalidUnknown) (by rfl) G_InvalidUnknown rfl) pa_nil))) (pa_cons (pe_callB (k_isP (K := K) rfl XC hp) (by rfl) T.z_isinstance (by decide +kernel) (pa_cons (pv 0) (pa_cons (pe_glob (v := .ref A_NoUnknown) (by rfl) G_NoUnknown rfl) pa_nil))) pa_nil)))))
 (pss_cons (ps_set (i := 1) sc__law_kinds.nd rfl (Or.inl rfl) (pe_op op_cat (pv 1) (pe_lst (pa_cons (pe_callB (k_isP (K := K) rfl XC hp) (by rfl) T.z_isinstance (by decide +kernel) (pa_cons (pv 0) (pa_cons (pe_glob (v := .ref A_HasFree) (by rfl) G_HasFree rfl) pa_nil))) (pa_cons (pe_callB (k_isP (K := K) rfl XC hp) (by rfl) T.z_isinstance (by decide +kernel) (pa_cons (pv 0) (pa_cons (pe_glob (v := .ref A_Reducible) (by rfl) G_Reducible rfl) pa_nil))) pa_nil)))))
 (pss_cons (ps_set (i := 1) sc__law_kinds.nd rfl (Or.inl rfl) (pe_op op_cat (pv 1) (pe_lst (pa_cons (pe_callB (k_isP (K := K) rfl XC hp) (by rfl) T.z_isinstance (by decide +kernel) (pa_cons (pv 0) (pa_cons (pe_glob (v := .ref A_NoRoot) (by rfl) G_NoRoot rfl) pa_nil))) (pa_cons (pe_callB (k_isP (K := K) rfl XC hp) (by rfl) T.z_isinstance (by decide +kernel) (pa_cons (pv 0) (pa_cons (pe_glob (v := .ref A_InvalidCode) (by rfl) G_InvalidCode rfl) pa_nil))) pa_nil)))))
 (pss_cons (ps_set (i := 1) sc__law_kinds.nd rfl (Or.inl rfl) (pe_op op_cat (pv 1) (pe_lst (pa_cons (pe_callB (k_isP (K := K) rfl XC hp) (by rfl) T.z_isinstance (by decide +kernel) (pa_cons (pv 0) (pa_cons (pe_glob (v := .ref A_TooDeep) (by rfl) G_TooDeep rfl) pa_nil))) (pa_cons (pe_callB (k_isP (K := K) rfl XC hp) (by rfl) T.z_isinstance (by decide +kernel) (pa_cons (pv 0) (pa_cons (pe_glob (v := .ref A_TooLarge) (by rfl) G_TooLarge rfl) pa_nil))) pa_nil)))))
 (pss_cons (ps_set (i := 1) sc__law_kinds.nd rfl (Or.inl rfl) (pe_op op_cat (pv 1) (pe_lst (pa_cons (pe_callB (k_isP (K := K) rfl XC hp) (by rfl) T.z_isinstance (by decide +kernel) (pa_cons (pv 0) (pa_cons (pe_glob (v := .ref A_InvalidPiece) (by rfl) G_InvalidPiece rfl) pa_nil))) (pa_cons (pe_callB (k_isP (K := K) rfl XC hp) (by rfl) T.z_isinstance (by decide +kernel) (pa_cons (pv 0) (pa_cons (pe_glob (v := .ref A_NoPiece) (by rfl) G_NoPiece rfl) pa_nil))) pa_nil)))))
 (pss_cons (ps_set (i := 1) sc__law_kinds.nd rfl (Or.inl rfl) (pe_op op_cat (pv 1) (pe_lst (pa_cons (pe_callB (k_isP (K := K) rfl XC hp) (by rfl) T.z_isinstance (by decide +kernel) (pa_cons (pv 0) (pa_cons (pe_glob (v := .ref A_InvalidSpot) (by rfl) G_InvalidSpot rfl) pa_nil))) (pa_cons (pe_callB (k_isP (K := K) rfl XC hp) (by rfl) T.z_isinstance (by decide +kernel) (pa_cons (pv 0) (pa_cons (pe_glob (v := .ref A_Vanishes) (by rfl) G_Vanishes rfl) pa_nil))) pa_nil)))))
 (pss_cons (ps_set (i := 1) sc__law_kinds.nd rfl (Or.inl rfl) (pe_op op_cat (pv 1) (pe_lst (pa_cons (pe_callB (k_isP (K := K) rfl XC hp) (by rfl) T.z_isinstance (by decide +kernel) (pa_cons (pv 0) (pa_cons (pe_glob (v := .ref A_NoCell) (by rfl) G_NoCell rfl) pa_nil))) (pa_cons (pe_callB (k_isP (K := K) rfl XC hp) (by rfl) T.z_isinstance (by decide +kernel) (pa_cons (pv 0) (pa_cons (pe_glob (v := .ref A_InvalidLine) (by rfl) G_InvalidLine rfl) pa_nil))) pa_nil)))))
 (pss_cons (ps_set (i := 1) sc__law_kinds.nd rfl (Or.inl rfl) (pe_op op_cat (pv 1) (pe_lst (pa_cons (pe_callB (k_isP (K := K) rfl XC hp) (by rfl) T.z_isinstance (by decide +kernel) (pa_cons (pv 0) (pa_cons (pe_glob (v := .ref A_InvalidSave) (by rfl) G_InvalidSave rfl) pa_nil))) (pa_cons (pe_callB (k_isP (K := K) rfl XC hp) (by rfl) T.z_isinstance (by decide +kernel) (pa_cons (pv 0) (pa_cons (pe_glob (v := .ref A_InvalidName) (by rfl) G_InvalidName rfl) pa_nil))) pa_nil)))))
 (pss_cons (ps_set (i := 1) sc__law_kinds.nd rfl (Or.inl rfl) (pe_op op_cat (pv 1) (pe_lst (pa_cons (pe_callB (k_isP (K := K) rfl XC hp) (by rfl) T.z_isinstance (by decide +kernel) (pa_cons (pv 0) (pa_cons (pe_glob (v := .ref A_Missing) (by rfl) G_Missing rfl) pa_nil))) (pa_cons (pe_callB (k_isP (K := K) rfl XC hp) (by rfl) T.z_isinstance (by decide +kernel) (pa_cons (pv 0) (pa_cons (pe_glob (v := .ref A_Circular) (by rfl) G_Circular rfl) pa_nil))) pa_nil)))))
 (pss_one (ps_ret (pe_op op_cat (pv 1) (pe_lst (pa_cons (pe_callB (k_isP (K := K) rfl XC hp) (by rfl) T.z_isinstance (by decide +kernel) (pa_cons (pv 0) (pa_cons (pe_glob (v := .ref A_NotASentence) (by rfl) G_NotASentence rfl) pa_nil))) pa_nil)))))))))))))))))), ?_⟩
  refine w_start (σ := [some _, none]) rfl ?_
  walk_at "go"
  refine w_isP ET hn (i := 0) rfl ?_
  walk_at "go"
  refine w_isP ET hn (i := 1) rfl ?_
  walk_at "go"
  refine w_newL (show 2 ≤ sizeLine by decide) fun l H1 n1 c1 h1 => ?_
  have c := c1
  have h := h1
  walk_at "go"
  refine w_isP ET hn (i := 2) rfl ?_
  walk_at "go"
  refine w_isP ET hn (i := 3) rfl ?_
  walk_at "go"
  refine w_newL (show 2 ≤ sizeLine by decide) fun p Hp np cp hp => ?_
  walk_at "go"
  refine w_cat (cp.at0 h) hp (show 2 + 2 ≤ sizeLine by decide) fun l Hl nl cl hl => ?_
  have c := (c.trans cp).trans cl
  have h := hl
  clear hl np nl hp
  walk_at "go"
  refine w_isP ET hn (i := 4) rfl ?_
  walk_at "go"
  refine w_isP ET hn (i := 5) rfl ?_
  walk_at "go"
  refine w_newL (show 2 ≤ sizeLine by decide) fun p Hp np cp hp => ?_
  walk_at "go"
  refine w_cat (cp.at0 h) hp (show 4 + 2 ≤ sizeLine by decide) fun l Hl nl cl hl => ?_
  have c := (c.trans cp).trans cl
  have h := hl
  clear hl np nl hp
  walk_at "go"
  refine w_isP ET hn (i := 6) rfl ?_
  walk_at "go"
  refine w_isP ET hn (i := 7) rfl ?_
  walk_at "go"
  refine w_newL (show 2 ≤ sizeLine by decide) fun p Hp np cp hp => ?_
  walk_at "go"
  refine w_cat (cp.at0 h) hp (show 6 + 2 ≤ sizeLine by decide) fun l Hl nl cl hl => ?_
  have c := (c.trans cp).trans cl
  have h := hl
  clear hl np nl hp
  walk_at "go"
  refine w_isP ET hn (i := 8) rfl ?_
  walk_at "go"
  refine w_isP ET hn (i := 9) rfl ?_
  walk_at "go"
  refine w_newL (show 2 ≤ sizeLine by decide) fun p Hp np cp hp => ?_
  walk_at "go"
  refine w_cat (cp.at0 h) hp (show 8 + 2 ≤ sizeLine by decide) fun l Hl nl cl hl => ?_
  have c := (c.trans cp).trans cl
  have h := hl
  clear hl np nl hp
  walk_at "go"
  refine w_isP ET hn (i := 10) rfl ?_
  walk_at "go"
  refine w_isP ET hn (i := 11) rfl ?_
  walk_at "go"
  refine w_newL (show 2 ≤ sizeLine by decide) fun p Hp np cp hp => ?_
  walk_at "go"
  refine w_cat (cp.at0 h) hp (show 10 + 2 ≤ sizeLine by decide) fun l Hl nl cl hl => ?_
  have c := (c.trans cp).trans cl
  have h := hl
  clear hl np nl hp
  walk_at "go"
  refine w_isP ET hn (i := 12) rfl ?_
  walk_at "go"
  refine w_isP ET hn (i := 13) rfl ?_
  walk_at "go"
  refine w_newL (show 2 ≤ sizeLine by decide) fun p Hp np cp hp => ?_
  walk_at "go"
  refine w_cat (cp.at0 h) hp (show 12 + 2 ≤ sizeLine by decide) fun l Hl nl cl hl => ?_
  have c := (c.trans cp).trans cl
  have h := hl
  clear hl np nl hp
  walk_at "go"
  refine w_isP ET hn (i := 14) rfl ?_
  walk_at "go"
  refine w_isP ET hn (i := 15) rfl ?_
  walk_at "go"
  refine w_newL (show 2 ≤ sizeLine by decide) fun p Hp np cp hp => ?_
  walk_at "go"
  refine w_cat (cp.at0 h) hp (show 14 + 2 ≤ sizeLine by decide) fun l Hl nl cl hl => ?_
  have c := (c.trans cp).trans cl
  have h := hl
  clear hl np nl hp
  walk_at "go"
  refine w_isP ET hn (i := 16) rfl ?_
  walk_at "go"
  refine w_isP ET hn (i := 17) rfl ?_
  walk_at "go"
  refine w_newL (show 2 ≤ sizeLine by decide) fun p Hp np cp hp => ?_
  walk_at "go"
  refine w_cat (cp.at0 h) hp (show 16 + 2 ≤ sizeLine by decide) fun l Hl nl cl hl => ?_
  have c := (c.trans cp).trans cl
  have h := hl
  clear hl np nl hp
  walk_at "go"
  refine w_isP ET hn (i := 18) rfl ?_
  walk_at "go"
  refine w_isP ET hn (i := 19) rfl ?_
  walk_at "go"
  refine w_newL (show 2 ≤ sizeLine by decide) fun p Hp np cp hp => ?_
  walk_at "go"
  refine w_cat (cp.at0 h) hp (show 18 + 2 ≤ sizeLine by decide) fun l Hl nl cl hl => ?_
  have c := (c.trans cp).trans cl
  have h := hl
  clear hl np nl hp
  walk_at "go"
  refine w_isP ET hn (i := 20) rfl ?_
  walk_at "go"
  refine w_isP ET hn (i := 21) rfl ?_
  walk_at "go"
  refine w_newL (show 2 ≤ sizeLine by decide) fun p Hp np cp hp => ?_
  walk_at "go"
  refine w_cat (cp.at0 h) hp (show 20 + 2 ≤ sizeLine by decide) fun l Hl nl cl hl => ?_
  have c := (c.trans cp).trans cl
  have h := hl
  clear hl np nl hp
  walk_at "go"
  refine w_isP ET hn (i := 22) rfl ?_
  walk_at "go"
  refine w_isP ET hn (i := 23) rfl ?_
  walk_at "go"
  refine w_newL (show 2 ≤ sizeLine by decide) fun p Hp np cp hp => ?_
  walk_at "go"
  refine w_cat (cp.at0 h) hp (show 22 + 2 ≤ sizeLine by decide) fun l Hl nl cl hl => ?_
  have c := (c.trans cp).trans cl
  have h := hl
  clear hl np nl hp
  walk_at "go"
  refine w_isP ET hn (i := 24) rfl ?_
  walk_at "go"
  refine w_isP ET hn (i := 25) rfl ?_
  walk_at "go"
  refine w_newL (show 2 ≤ sizeLine by decide) fun p Hp np cp hp => ?_
  walk_at "go"
  refine w_cat (cp.at0 h) hp (show 24 + 2 ≤ sizeLine by decide) fun l Hl nl cl hl => ?_
  have c := (c.trans cp).trans cl
  have h := hl
  clear hl np nl hp
  walk_at "go"
  refine w_isP ET hn (i := 26) rfl ?_
  walk_at "go"
  refine w_newL (show 1 ≤ sizeLine by decide) fun p Hp np cp hp => ?_
  walk_at "go"
  refine w_cat (cp.at0 h) hp (show 26 + 1 ≤ sizeLine by decide) fun l Hl nl cl hl => ?_
  exact q l Hl ((c.trans cp).trans cl) hl
end
end My
namespace My
open PySem PySem.Spec PyProof.Rows L2
section
variable {P : Program} {w : World} {K : PySem.W.Frag} {mg : Str → Option Value} {base : Heap}
abbrev s__law_alone : Stmt := topS 67
theorem sc__law_alone : FnScope ["failure", "at", "kinds", "k"] ["failure", "at"] (defScope s__law_alone) := ⟨rfl, rfl, rfl, by decide +kernel, rfl, by decide +kernel, by decide +kernel⟩
def sp__law_alone (as : List Addr) : Sp := fun vs H Q _ => ∃ (a D : Addr) (n : Nat) (z : Int), vs = [.ref a, .int z] ∧ z = n ∧ n < 27 ∧ as[n]? = some D ∧ Exv H a D ∧ ∀ H', Ch [] H H' → Q (.bl true) H'
def sp__law_aloneP (n : Nat) : Addr → Sp := fun a vs H Q _ => ∃ z : Int, vs = [.ref a, .int z] ∧ z = n ∧ ∀ H', Ch [] H H' → Q (.bl true) H'
theorem c__law_alone {A_DivisionByZero A_ZeroPolynomial A_HasQuantifier A_NotOneUnknown A_NothingToUndo A_InvalidPoly A_InvalidStretch A_InvalidText A_InvalidUnknown A_NoUnknown A_HasFree A_Reducible A_NoRoot A_InvalidCode A_TooDeep A_TooLarge A_InvalidPiece A_NoPiece A_InvalidSpot A_Vanishes A_NoCell A_InvalidLine A_InvalidSave A_InvalidName A_Missing A_Circular A_NotASentence A_CellspireError : Addr} (T : Txt mg) (z_ValueError : mg "ValueError" = none) (ET : ErrT K mg A_CellspireError [A_DivisionByZero, A_ZeroPolynomial, A_HasQuantifier, A_NotOneUnknown, A_NothingToUndo, A_InvalidPoly, A_InvalidStretch, A_InvalidText, A_InvalidUnknown, A_NoUnknown, A_HasFree, A_Reducible, A_NoRoot, A_InvalidCode, A_TooDeep, A_TooLarge, A_InvalidPiece, A_NoPiece, A_InvalidSpot, A_Vanishes, A_NoCell, A_InvalidLine, A_InvalidSave, A_InvalidName, A_Missing, A_Circular, A_NotASentence]) (C__law_kinds : Cal P w K mg base 1 "_law_kinds" (sp__law_kinds K [A_DivisionByZero, A_ZeroPolynomial, A_HasQuantifier, A_NotOneUnknown, A_NothingToUndo, A_InvalidPoly, A_InvalidStretch, A_InvalidText, A_InvalidUnknown, A_NoUnknown, A_HasFree, A_Reducible, A_NoRoot, A_InvalidCode, A_TooDeep, A_TooLarge, A_InvalidPiece, A_NoPiece, A_InvalidSpot, A_Vanishes, A_NoCell, A_InvalidLine, A_InvalidSave, A_InvalidName, A_Missing, A_Circular, A_NotASentence])) {f : Addr} {fd : FuncData} (F : DefF K mg "_law_alone" s__law_alone ["failure", "at"] f fd) : Cal P w K mg base 2 "_law_alone" (sp__law_alone [A_DivisionByZero, A_ZeroPolynomial, A_HasQuantifier, A_NotOneUnknown, A_NothingToUndo, A_InvalidPoly, A_InvalidStretch, A_InvalidText, A_InvalidUnknown, A_NoUnknown, A_HasFree, A_Reducible, A_NoRoot, A_InvalidCode, A_TooDeep, A_TooLarge, A_InvalidPiece, A_NoPiece, A_InvalidSpot, A_Vanishes, A_NoCell, A_InvalidLine, A_InvalidSave, A_InvalidName, A_Missing, A_Circular, A_NotASentence]) := by
  have G_CellspireError := ET.gE
  refine cal_of F sc__law_alone (fun vs H Q E h => by obtain ⟨_, _, _, _, rfl, _⟩ := h; rfl) (fun cdv A outer s H vs Q E hr h => ?_)
  obtain ⟨a, D, n, _, rfl, rfl, n27, hn, v, q⟩ := h
  refine ⟨_, (pss_cons (ps_set (i := 2) sc__law_alone.nd rfl (Or.inl rfl) (pe_cc C__law_kinds hr (by decide) (by rfl) (pa_cons (pv 0) pa_nil)))
 (pss_cons (ps_for PassesOwn.never rfl (pi_range1 (by rfl) T.z_range (pa_cons (pe_callB (k_len (K := K) rfl) (by rfl) T.z_len PySem.boot_len (pa_cons (pv 2) pa_nil)) pa_nil)) (pg_name (i := 3) sc__law_alone.nd rfl (Or.inl rfl)) (pss_one (ps_if (pt_cmpR op_ne (pe_ix (k_ixL (K := K) rfl) (pv 2) (pv 3) (fun _ _ => rfl)) (pe_cmpR op_eq (pv 3) (pv 1) (nomark _)) (nomark _)) (pss_one (ps_ret pe_bl)) pss_nil)))
 (pss_one (ps_ret (pe_and (pe_callB (k_isV (K := K) rfl) (by rfl) T.z_isinstance (by decide +kernel) (pa_cons (pv 0) (pa_cons (pe_glob (v := .ref A_CellspireError) (by rfl) G_CellspireError rfl) pa_nil))) (pe_one (pe_callB (k_isV (K := K) rfl) (by rfl) T.z_isinstance (by decide +kernel) (pa_cons (pv 0) (pa_cons (pe_bltn (by rfl) z_ValueError (by decide +kernel) (v := .ty "ValueError") rfl) pa_nil))))))))), ?_⟩
  refine w_start (σ := [some _, some _, none, none]) rfl ?_
  walk_at "go"
  refine ⟨a, D, n, rfl, hn, v, fun l H1 c1 h1 => ?_⟩
  walk_at "go"
  refine w_lenL (.of h1) ?_
  rw [kinds_len]
  walk_at "go"
  refine w_iR1r (by decide) (by decide) ?_
  refine for_R (n := 27) (fun i σ H' => H' = H1 ∧ ∃ z, σ = [some (.ref a), some (.int n), some (.ref l), z]) ⟨rfl, none, rfl⟩ ?_ ?_
  · rintro i σ H' hi ⟨rfl, z, rfl⟩
    walk_at "go"
    refine w_ixk h1 (k := i) (by omega) (kinds_at hi) ?_
    walk_at "go"
    have e : decide (0 + (i : Int) = (n : Int)) = decide (i = n) := by
      rw [decide_eq_decide]
      omega
    refine w_neB ?_
    rw [e, decide_eq_true rfl]
    walk_at "go"
    rw [if_neg (by decide)]
    exact ⟨rfl, _, rfl⟩
  rintro σ H' ⟨rfl, z, rfl⟩
  walk_at "go"
  refine w_isVE ET hn (v.ch c1) ?_
  walk_at "go"
  rw [if_pos rfl]
  walk_at "go"
  refine w_isVV ET hn (v.ch c1) ?_
  exact q _ c1
theorem p__law_alone {A_DivisionByZero A_ZeroPolynomial A_HasQuantifier A_NotOneUnknown A_NothingToUndo A_InvalidPoly A_InvalidStretch A_InvalidText A_InvalidUnknown A_NoUnknown A_HasFree A_Reducible A_NoRoot A_InvalidCode A_TooDeep A_TooLarge A_InvalidPiece A_NoPiece A_InvalidSpot A_Vanishes A_NoCell A_InvalidLine A_InvalidSave A_InvalidName A_Missing A_Circular A_NotASentence A_CellspireError D : Addr} (n : Nat) (T : Txt mg) (z_ValueError : mg "ValueError" = none) (ET : ErrT K mg A_CellspireError [A_DivisionByZero, A_ZeroPolynomial, A_HasQuantifier, A_NotOneUnknown, A_NothingToUndo, A_InvalidPoly, A_InvalidStretch, A_InvalidText, A_InvalidUnknown, A_NoUnknown, A_HasFree, A_Reducible, A_NoRoot, A_InvalidCode, A_TooDeep, A_TooLarge, A_InvalidPiece, A_NoPiece, A_InvalidSpot, A_Vanishes, A_NoCell, A_InvalidLine, A_InvalidSave, A_InvalidName, A_Missing, A_Circular, A_NotASentence]) (hn : [A_DivisionByZero, A_ZeroPolynomial, A_HasQuantifier, A_NotOneUnknown, A_NothingToUndo, A_InvalidPoly, A_InvalidStretch, A_InvalidText, A_InvalidUnknown, A_NoUnknown, A_HasFree, A_Reducible, A_NoRoot, A_InvalidCode, A_TooDeep, A_TooLarge, A_InvalidPiece, A_NoPiece, A_InvalidSpot, A_Vanishes, A_NoCell, A_InvalidLine, A_InvalidSave, A_InvalidName, A_Missing, A_Circular, A_NotASentence][n]? = some D) (P__law_kinds : CalP P w K mg base 1 D "_law_kinds" (sp__law_kindsP n)) {f : Addr} {fd : FuncData} (F : DefF K mg "_law_alone" s__law_alone ["failure", "at"] f fd) : CalP P w K mg base 2 D "_law_alone" (sp__law_aloneP n) := by
  have G_CellspireError := ET.gE
  have XC := ET.x hn
  refine cal_ofP F sc__law_alone (fun a vs H Q E h => by obtain ⟨_, rfl, _⟩ := h; rfl) (fun cdv A outer s H vs Q E pp hot zc hr h => ?_)
  obtain ⟨_, rfl, rfl, q⟩ := h
  have hp : HotP (L2H.cxH (L2.CX P w) P w K mg base ["failure", "at", "kinds", "k"] "_law_alone" (defScope s__law_alone) f cdv A outer s H E pp).nox pp.1 D := ⟨pp, rfl, ⟨hot.1, hot.2⟩, List.mem_singleton.mpr rfl, zc⟩
  have hc := hp.hot
  refine ⟨_, (pss_cons (ps_set (i := 2) sc__law_alone.nd rfl (Or.inl rfl) (pe_ccP P__law_kinds hr (by decide) hp (by rfl) (pa_cons (pv 0) pa_nil)))
 (pss_cons (L2H.ps_forH PassesOwn.never hc (L2H.pi_range1H (by rfl) T.z_range (pa_cons (pe_callB (k_len (K := K) rfl) (by rfl) T.z_len PySem.boot_len (pa_cons (pv 2) pa_nil)) pa_nil)) (pg_name (i := 3) sc__law_alone.nd rfl (Or.inl rfl)) (pss_one (ps_if (pt_cmpR op_ne (pe_ix (k_ixL (K := K) rfl) (pv 2) (pv 3) (fun _ _ => rfl)) (pe_cmpR op_eq (pv 3) (pv 1) (nomark _)) (nomark _)) (pss_one (ps_ret pe_bl)) pss_nil)))
 (pss_one (ps_ret (pe_and (pe_callB (k_isP (K := K) rfl XC hp) (by rfl) T.z_isinstance (by decide +kernel) (pa_cons (pv 0) (pa_cons (pe_glob (v := .ref A_CellspireError) (by rfl) G_CellspireError rfl) pa_nil))) (pe_one (pe_callB (k_isP (K := K) rfl XC hp) (by rfl) T.z_isinstance (by decide +kernel) (pa_cons (pv 0) (pa_cons (pe_bltn (by rfl) z_ValueError (by decide +kernel) (v := .ty "ValueError") rfl) pa_nil))))))))), ?_⟩
  refine w_start (σ := [some _, some _, none, none]) rfl ?_
  walk_at "go"
  refine w_callS ?_
  walk_at "go"
  refine ⟨rfl, fun l H1 c1 h1 => ?_⟩
  walk_at "go"
  refine w_lenL (.of h1) ?_
  rw [kinds_len]
  walk_at "go"
  refine w_iR1r (by decide) (by decide) ?_
  refine for_R (n := 27) (fun i σ H' => H' = H1 ∧ ∃ z, σ = [some (.ref pp.1), some (.int n), some (.ref l), z]) ⟨rfl, none, rfl⟩ ?_ ?_
  · rintro i σ H' hi ⟨rfl, z, rfl⟩
    walk_at "go"
    refine w_ixk h1 (k := i) (by omega) (kinds_at hi) ?_
    walk_at "go"
    have e : decide (0 + (i : Int) = (n : Int)) = decide (i = n) := by
      rw [decide_eq_decide]
      omega
    refine w_neB ?_
    rw [e, decide_eq_true rfl]
    walk_at "go"
    rw [if_neg (by decide)]
    exact ⟨rfl, _, rfl⟩
  rintro σ H' ⟨rfl, z, rfl⟩
  walk_at "go"
  refine w_isPE ET hn ?_
  walk_at "go"
  rw [if_pos rfl]
  walk_at "go"
  refine w_isPV ET hn ?_
  exact q _ c1
abbrev s__law_word_is : Stmt := topS 70
theorem sc__law_word_is : FnScope ["told", "due"] ["told", "due"] (defScope s__law_word_is) := ⟨rfl, rfl, rfl, by decide +kernel, rfl, by decide +kernel, by decide +kernel⟩
def sp__law_word_is : Sp := fun vs H Q _ => ∃ x : Str, vs = [.str x, .str x] ∧ Q (.bl true) H
theorem w_isiSS {H : Hp} {Q : VK} {x : Str} (q : Q (.bl true) H) : rIsi K [.str x, .ty "str"] H Q := ⟨_, _, _, _, _, rfl, .ty _, .base (.str x), kit_ty (by decide +kernel), q⟩
theorem c__law_word_is (T : Txt mg) (z_str : mg "str" = none) {f : Addr} {fd : FuncData} (F : DefF K mg "_law_word_is" s__law_word_is ["told", "due"] f fd) : Cal P w K mg base 1 "_law_word_is" sp__law_word_is := by
  refine cal_of F sc__law_word_is (fun vs H Q E h => by obtain ⟨_, rfl, _⟩ := h; rfl) (fun cdv A outer s H vs Q E hr h => ?_)
  obtain ⟨x, rfl, q⟩ := h
  refine ⟨_, (pss_one (ps_ret (pe_and (pe_callB (k_isi (K := K) rfl) (by rfl) T.z_isinstance (by decide +kernel) (pa_cons (pv 0) (pa_cons (pe_bltn (by rfl) z_str (by decide +kernel) (v := .ty "str") rfl) pa_nil))) (pe_one (pe_cmpR op_eq (pv 0) (pv 1) (nomark _)))))), ?_⟩
  refine w_start (σ := [some _, some _]) rfl ?_
  walk_at "go"
  refine w_isiSS ?_
  walk_at "go"
  rw [if_pos rfl]
  walk_at "go"
  refine ⟨rfl, ?_⟩
  rw [decide_eq_true rfl]
  exact q
end
end My
namespace My
open PySem PySem.Spec PyProof.Rows L2
theorem Low.uniq {t b n d m e : Int} (h : Low t b n d) (k : Low t b m e) (hb : b ≠ 0) : n = m ∧ d = e := by
  have e1 : n * e = d * m := by
    have h1 : n * b * m * e = d * t * m * e := by rw [h.eq]
    have h2 := k.eq
    have h3 : b * (n * e) = b * (d * m) := by
      by_cases z : m = 0
      · have t0 : t = 0 := by
          rw [z, Int.zero_mul] at h2
          rcases Int.mul_eq_zero.mp h2.symm with q | q
          · have := k.pos
            omega
          · exact q
        have n0 : n = 0 := by
          have q := h.eq
          rw [t0, Int.mul_zero] at q
          rcases Int.mul_eq_zero.mp q with r | r
          · exact r
          · exact absurd r hb
        rw [n0, z]
        simp
      · have ez : e ≠ 0 := by have := k.pos; omega
        have : e * (b * (n * e)) = e * (b * (d * m)) := by
          calc e * (b * (n * e)) = e * e * (n * b) := by simp only [Int.mul_assoc, Int.mul_left_comm, Int.mul_comm]
            _ = e * d * (e * t) := by rw [h.eq]; simp only [Int.mul_assoc, Int.mul_left_comm, Int.mul_comm]
            _ = e * d * (m * b) := by rw [← h2]
            _ = e * (b * (d * m)) := by simp only [Int.mul_assoc, Int.mul_left_comm, Int.mul_comm]
        exact Int.eq_of_mul_eq_mul_left ez this
    exact Int.eq_of_mul_eq_mul_left hb h3
  have hp := h.pos
  have kp := k.pos
  have a1 : n.natAbs * e.natAbs = d.natAbs * m.natAbs := by rw [← Int.natAbs_mul, ← Int.natAbs_mul, e1]
  have c1 : Nat.Coprime d.natAbs n.natAbs := by rw [Nat.Coprime, Nat.gcd_comm]; exact h.cop
  have c2 : Nat.Coprime e.natAbs m.natAbs := by rw [Nat.Coprime, Nat.gcd_comm]; exact k.cop
  have d1 : d.natAbs ∣ e.natAbs := c1.dvd_of_dvd_mul_left (by rw [a1]; exact Nat.dvd_mul_right _ _)
  have d2 : e.natAbs ∣ d.natAbs := c2.dvd_of_dvd_mul_right (by rw [← a1]; exact Nat.dvd_mul_left _ _)
  have de : d = e := by
    have := Nat.dvd_antisymm d1 d2
    omega
  subst de
  refine ⟨?_, rfl⟩
  rw [Int.mul_comm] at e1
  exact Int.eq_of_mul_eq_mul_left (by omega) e1
theorem Low.neg {t b n d : Int} (h : Low (-t) (-b) n d) : Low t b n d := ⟨h.pos, h.cop, by
  have e := h.eq
  rw [Int.mul_neg, Int.mul_neg] at e
  omega, by rw [← Int.natAbs_neg t]; exact h.ln, by rw [← Int.natAbs_neg b]; exact h.ld⟩
theorem low_one (n : Int) : Low n 1 n 1 := ⟨by decide, Nat.gcd_one_right _, by omega, Nat.le_refl _, Nat.le_refl _⟩
section
variable {P : Program} {w : World} {K : PySem.W.Frag} {mg : Str → Option Value} {base : Heap}
abbrev s__law_fraction_holds : Stmt := topS 55
theorem sc__law_fraction_holds : FnScope ["n", "d", "failure"] ["n", "d"] (defScope s__law_fraction_holds) := ⟨rfl, rfl, rfl, by decide +kernel, rfl, by decide +kernel, by decide +kernel⟩
def sp__law_fraction_holds : Sp := fun vs H Q _ => ∃ n d : Int, vs = [.int n, .int d] ∧ d.natAbs < 2 ^ 300 ∧ ∀ H', Ch [] H H' → Q (.bl true) H'
theorem c__law_fraction_holds {A_DivisionByZero : Addr} (T : Txt mg) (G_DivisionByZero : mg "DivisionByZero" = some (.ref A_DivisionByZero)) (eD : PySem.W.exmOne K (.ref A_DivisionByZero) (.ref A_DivisionByZero) = some true) (C_fraction : CalN P w K mg base 1 "fraction" (sp_fraction K A_DivisionByZero)) (CD_fraction : CalD P w K mg base 1 "fraction" [.int 1] (sp_fraction K A_DivisionByZero))
    (C__law_same : Cal P w K mg base 2 "_law_same" (sp__law_same K)) (C__law_lowest : Cal P w K mg base 2 "_law_lowest" (sp__law_lowest K)) (P__law_alone : CalP P w K mg base 2 A_DivisionByZero "_law_alone" (sp__law_aloneP 0))
    {f : Addr} {fd : FuncData} (F : DefF K mg "_law_fraction_holds" s__law_fraction_holds ["n", "d"] f fd) : Cal P w K mg base 3 "_law_fraction_holds" sp__law_fraction_holds := by
  refine cal_of F sc__law_fraction_holds (fun vs H Q E h => by obtain ⟨_, _, rfl, _⟩ := h; rfl) (fun cdv A outer s H vs Q E hr h => ?_)
  obtain ⟨n, d, rfl, bd, q⟩ := h
  have bd8 : d.natAbs < 2 ^ 8000 := abs_mono bd (by decide)
  have bd2 : d.natAbs < 2 ^ 1998 := abs_mono bd (by decide)
  refine ⟨_, (pss_cons (ps_if (pt_not (pt_val (pe_cc C__law_same hr (by decide) (by rfl) (pa_cons (pe_ccD CD_fraction hr (by decide) (by rfl) (pa_cons (pv 0) pa_nil)) (pa_cons (pe_tup (pa_cons (pv 0) (pa_cons pe_int pa_nil))) pa_nil))))) (pss_one (ps_ret pe_bl)) pss_nil)
 (pss_cons (ps_if (pt_cmpR op_eq (pv 1) pe_int (nomark _)) (pss_cons (L2N.ps_try_as (i := 2) (Wout := fun _ _ _ _ => False) rfl rfl sc__law_fraction_holds.nd rfl rfl ⟨rfl, by decide, Or.inl G_DivisionByZero⟩ takesN0 (fun W pn xe tk _ => (pss_one (ps_expr (pe_ccSN C_fraction hr (by decide) (by rfl) tk (pa_cons (pv 0) (pa_cons (pv 1) pa_nil))))))
  (fun a oe cls d pn hz hf => pss_under fun hcls => (pss_one (ps_ret (pe_ccP P__law_alone (L2H.roomH_mark hr _) (by decide) (hotP_suite hcls hz hf) (by rfl) (pa_cons (pv 2) (pa_cons pe_int pa_nil)))))))
 (pss_one (ps_ret pe_bl))) pss_nil)
 (pss_one (ps_ret (pe_and (pe_cc C__law_same hr (by decide) (by rfl) (pa_cons (pe_ccN C_fraction hr (by decide) (by rfl) (pa_cons (pv 0) (pa_cons (pv 1) pa_nil))) (pa_cons (pe_cc C__law_lowest hr (by decide) (by rfl) (pa_cons (pv 0) (pa_cons (pv 1) pa_nil))) pa_nil))) (pe_one (pe_cc C__law_same hr (by decide) (by rfl) (pa_cons (pe_ccN C_fraction hr (by decide) (by rfl) (pa_cons (pe_un un_neg (pv 0)) (pa_cons (pe_un un_neg (pv 1)) pa_nil))) (pa_cons (pe_cc C__law_lowest hr (by decide) (by rfl) (pa_cons (pv 0) (pa_cons (pv 1) pa_nil))) pa_nil))))))))), ?_⟩
  refine w_start (σ := [some _, some _, none]) rfl ?_
  walk_at "go"
  refine ⟨n, 1, rfl, by decide +kernel, fun h => absurd h (by decide), fun _ t x y H1 l1 c1 f1 => ?_⟩
  obtain ⟨rfl, rfl⟩ := (low_one n).uniq l1 (by decide)
  walk_at "go"
  refine w_newT (show 2 ≤ sizeLine by decide) fun p H2 n2 c2 h2 => ?_
  walk_at "go"
  refine ⟨t, p, [n, 1], [n, 1], rfl, c2.sqT f1, .of h2, (show 2 ≤ 1000 by decide), (show 2 ≤ 1000 by decide), ?_⟩
  rw [decide_eq_true rfl]
  walk_at "go"
  rw [if_neg (by decide)]
  walk_at "go"
  refine ite_d (fun h0 => ?_) (fun h0 => ?_)
  · subst h0
    walk_at "go"
    refine w_callS ?_
    walk_at "go"
    refine ⟨n, 0, rfl, bd8, fun _ => ?_, fun h => absurd rfl h⟩
    refine ⟨true, eD, fun _ x nx => ?_, fun h => nomatch h⟩
    refine ⟨⟨rfl, rfl⟩, ?_⟩
    walk_at "go"
    refine w_callS ?_
    walk_at "go"
    exact ⟨0, rfl, rfl, fun H' c => q H' ((c1.trans c2).trans c)⟩
  have c12 := c1.trans c2
  walk_at "go"
  refine ⟨n, d, rfl, bd8, fun h => absurd h h0, fun _ t3 x3 y3 H3 l3 c3 f3 => ?_⟩
  walk_at "go"
  refine ⟨n, d, rfl, h0, bd2, fun t4 x4 y4 H4 l4 c4 f4 => ?_⟩
  walk_at "go"
  refine ⟨t3, t4, _, _, rfl, c4.sqT f3, f4, (show 2 ≤ 1000 by decide), (show 2 ≤ 1000 by decide), ?_⟩
  obtain ⟨rfl, rfl⟩ := l3.uniq l4 h0
  rw [decide_eq_true rfl]
  walk_at "go"
  rw [if_pos rfl]
  walk_at "go"
  refine ⟨-n, -d, rfl, by rw [Int.natAbs_neg]; exact bd8, fun h => absurd h (by omega), fun _ t5 x5 y5 H5 l5 c5 f5 => ?_⟩
  walk_at "go"
  refine ⟨n, d, rfl, h0, bd2, fun t6 x6 y6 H6 l6 c6 f6 => ?_⟩
  walk_at "go"
  refine ⟨t5, t6, _, _, rfl, c6.sqT f5, f6, (show 2 ≤ 1000 by decide), (show 2 ≤ 1000 by decide), ?_⟩
  obtain ⟨rfl, rfl⟩ := l5.neg.uniq l6 h0
  rw [decide_eq_true rfl]
  exact q _ ((((c12.trans c3).trans c4).trans c5).trans c6)
end
end My
namespace My
open PySem PySem.Spec PyProof.Rows L2
section
variable {P : Program} {w : World} {K : PySem.W.Frag} {mg : Str → Option Value} {base : Heap}
abbrev s__law_over_refused : Stmt := topS 62
theorem sc__law_over_refused : FnScope ["a", "b", "failure"] ["a", "b"] (defScope s__law_over_refused) := ⟨rfl, rfl, rfl, by decide +kernel, rfl, by decide +kernel, by decide +kernel⟩
def sp__law_over_refused (K : PySem.W.Frag) : Sp := fun vs H Q _ => ∃ (a b : Addr) (n d m e : Int), vs = [.ref a, .ref b] ∧ Fr K H a n d ∧ Fr K H b m e ∧ 0 < d ∧ 0 < e ∧ n.natAbs < 2 ^ 3000 ∧ d.natAbs < 2 ^ 3000 ∧ e.natAbs < 2 ^ 3000 ∧ m = 0 ∧ ∀ H', Ch [] H H' → Q (.bl true) H'
theorem c__law_over_refused {A_DivisionByZero : Addr} (T : Txt mg) (G_DivisionByZero : mg "DivisionByZero" = some (.ref A_DivisionByZero)) (eD : PySem.W.exmOne K (.ref A_DivisionByZero) (.ref A_DivisionByZero) = some true) (C_over : CalN P w K mg base 2 "over" (sp_over K A_DivisionByZero))
    (P__law_alone : CalP P w K mg base 2 A_DivisionByZero "_law_alone" (sp__law_aloneP 0)) {f : Addr} {fd : FuncData} (F : DefF K mg "_law_over_refused" s__law_over_refused ["a", "b"] f fd) : Cal P w K mg base 3 "_law_over_refused" (sp__law_over_refused K) := by
  refine cal_of F sc__law_over_refused (fun vs H Q E h => by obtain ⟨_, _, _, _, _, _, rfl, _⟩ := h; rfl) (fun cdv A outer s H vs Q E hr h => ?_)
  obtain ⟨a, b, n, d, m, e, rfl, fa, fb, d0, e0, b1, b2, b4, rfl, q⟩ := h
  refine ⟨_, (pss_cons (L2N.ps_try_as (i := 2) (Wout := fun _ _ _ _ => False) rfl rfl sc__law_over_refused.nd rfl rfl ⟨rfl, by decide, Or.inl G_DivisionByZero⟩ takesN0 (fun W pn xe tk _ => (pss_one (ps_expr (pe_ccSN C_over hr (by decide) (by rfl) tk (pa_cons (pv 0) (pa_cons (pv 1) pa_nil))))))
  (fun a oe cls d pn hz hf => pss_under fun hcls => (pss_one (ps_ret (pe_ccP P__law_alone (L2H.roomH_mark hr _) (by decide) (hotP_suite hcls hz hf) (by rfl) (pa_cons (pv 2) (pa_cons pe_int pa_nil)))))))
 (pss_one (ps_ret pe_bl))), ?_⟩
  refine w_start (σ := [some _, some _, none]) rfl ?_
  walk_at "go"
  refine w_callS ?_
  walk_at "go"
  refine ⟨a, b, n, d, 0, e, 3000, rfl, fa, fb, d0, e0, b1, b2, Nat.pow_pos (by decide), b4, by decide, fun _ => ?_, fun h => absurd rfl h⟩
  refine ⟨true, eD, fun _ x nx => ?_, fun h => nomatch h⟩
  refine ⟨⟨rfl, rfl⟩, ?_⟩
  walk_at "go"
  refine w_callS ?_
  walk_at "go"
  exact ⟨0, rfl, rfl, fun H' c => q H' c⟩
abbrev s__law_sums_hold : Stmt := topS 63
theorem sc__law_sums_hold : FnScope ["a", "b", "deed"] ["a", "b"] (defScope s__law_sums_hold) := ⟨rfl, rfl, rfl, by decide +kernel, rfl, by decide +kernel, by decide +kernel⟩
def sp__law_sums_hold (K : PySem.W.Frag) : Sp := fun vs H Q _ => ∃ (a b : Addr) (n d m e : Int), vs = [.ref a, .ref b] ∧ Fr K H a n d ∧ Fr K H b m e ∧ 0 < d ∧ 0 < e ∧ n.natAbs < 2 ^ 300 ∧ d.natAbs < 2 ^ 300 ∧ m.natAbs < 2 ^ 300 ∧ e.natAbs < 2 ^ 300 ∧ ∀ H', Ch [] H H' → Q (.bl true) H'
theorem duB_ne {deed n d m e : Int} (d0 : 0 < d) (e0 : 0 < e) (g : deed = 3 → m ≠ 0) (h0 : 0 ≤ deed) (h3 : deed ≤ 3) : duB deed n d m e ≠ 0 := by
  have pe : 0 < d * e := Int.mul_pos d0 e0
  unfold duB
  split
  · omega
  split
  · omega
  split
  · omega
  exact Int.mul_ne_zero (by omega) (g (by omega))
theorem c__law_sums_hold {A_DivisionByZero : Addr} (T : Txt mg) (C_over : CalN P w K mg base 2 "over" (sp_over K A_DivisionByZero)) (C__law_same : Cal P w K mg base 2 "_law_same" (sp__law_same K)) (C__law_due : Cal P w K mg base 3 "_law_due" (sp__law_due K)) (C__law_done : Cal P w K mg base 3 "_law_done" (sp__law_done K))
    (C__law_over_refused : Cal P w K mg base 3 "_law_over_refused" (sp__law_over_refused K)) {f : Addr} {fd : FuncData} (F : DefF K mg "_law_sums_hold" s__law_sums_hold ["a", "b"] f fd) : Cal P w K mg base 4 "_law_sums_hold" (sp__law_sums_hold K) := by
  refine cal_of F sc__law_sums_hold (fun vs H Q E h => by obtain ⟨_, _, _, _, _, _, rfl, _⟩ := h; rfl) (fun cdv A outer s H vs Q E hr h => ?_)
  obtain ⟨a, b, n, d, m, e, rfl, fa, fb, d0, e0, b1, b2, b3, b4, q⟩ := h
  have B : ∀ {x : Int}, x.natAbs < 2 ^ 300 → x.natAbs < 2 ^ 3000 := fun h => abs_mono h (by decide)
  refine ⟨_, (pss_cons (ps_for PassesOwn.never rfl (pi_range1 (by rfl) T.z_range (pa_cons pe_int pa_nil)) (pg_name (i := 2) sc__law_sums_hold.nd rfl (Or.inl rfl)) (pss_one (ps_if (pt_not (pt_val (pe_cc C__law_same hr (by decide) (by rfl) (pa_cons (pe_cc C__law_done hr (by decide) (by rfl) (pa_cons (pv 2) (pa_cons (pv 0) (pa_cons (pv 1) pa_nil)))) (pa_cons (pe_cc C__law_due hr (by decide) (by rfl) (pa_cons (pv 2) (pa_cons (pv 0) (pa_cons (pv 1) pa_nil)))) pa_nil))))) (pss_one (ps_ret pe_bl)) pss_nil)))
 (pss_cons (ps_if (pt_cmpR op_eq (pe_ix (k_ixT (K := K) rfl) (pv 1) pe_int (fun _ _ => rfl)) pe_int (nomark _)) (pss_one (ps_ret (pe_cc C__law_over_refused hr (by decide) (by rfl) (pa_cons (pv 0) (pa_cons (pv 1) pa_nil))))) pss_nil)
 (pss_one (ps_ret (pe_cc C__law_same hr (by decide) (by rfl) (pa_cons (pe_ccN C_over hr (by decide) (by rfl) (pa_cons (pv 0) (pa_cons (pv 1) pa_nil))) (pa_cons (pe_cc C__law_due hr (by decide) (by rfl) (pa_cons pe_int (pa_cons (pv 0) (pa_cons (pv 1) pa_nil)))) pa_nil))))))), ?_⟩
  refine w_start (σ := [some _, some _, none]) rfl ?_
  walk_at "go"
  refine w_iR1r (by decide) (by decide) ?_
  refine for_R (n := 3) (fun i σ H' => Ch [] H H' ∧ ∃ z, σ = [some (.ref a), some (.ref b), z]) ⟨.refl, none, rfl⟩ ?_ ?_
  · rintro i σ H1 hi ⟨c1, z, rfl⟩
    walk_at "go"
    refine ⟨a, b, _, n, d, m, e, rfl, c1.sqT fa, c1.sqT fb, d0, e0, B b1, B b2, B b3, B b4, by omega, by omega, fun h => absurd h (by omega), fun t x y H2 l2 c2 f2 => ?_⟩
    walk_at "go"
    refine ⟨a, b, _, n, d, m, e, 300, rfl, (c1.trans c2).sqT fa, (c1.trans c2).sqT fb, d0, e0, b1, b2, b3, b4, by decide, by omega, by omega, fun h => absurd h (by omega), fun t3 x3 y3 H3 l3 c3 f3 => ?_⟩
    walk_at "go"
    refine ⟨t, t3, _, _, rfl, c3.sqT f2, f3, (show 2 ≤ 1000 by decide), (show 2 ≤ 1000 by decide), ?_⟩
    obtain ⟨rfl, rfl⟩ := l2.uniq l3 (duB_ne d0 e0 (fun h => absurd h (by omega)) (by omega) (by omega))
    rw [decide_eq_true rfl]
    walk_at "go"
    rw [if_neg (by decide)]
    exact ⟨(c1.trans c2).trans c3, _, rfl⟩
  rintro σ H1 ⟨c1, z, rfl⟩
  have fa := c1.sqT fa
  have fb := c1.sqT fb
  walk_at "go"
  refine ite_d (fun h0 => ?_) (fun h0 => ?_)
  · walk_at "go"
    exact ⟨a, b, n, d, m, e, rfl, fa, fb, d0, e0, B b1, B b2, B b4, h0, fun H' c => q H' (c1.trans c)⟩
  walk_at "go"
  refine ⟨a, b, n, d, m, e, 300, rfl, fa, fb, d0, e0, b1, b2, b3, b4, by decide, fun h => absurd h h0, fun _ t x y H2 l2 c2 f2 => ?_⟩
  walk_at "go"
  refine ⟨a, b, 3, n, d, m, e, 300, rfl, c2.sqT fa, c2.sqT fb, d0, e0, b1, b2, b3, b4, by decide, by decide, by decide, fun _ => h0, fun t3 x3 y3 H3 l3 c3 f3 => ?_⟩
  walk_at "go"
  refine ⟨t, t3, _, _, rfl, c3.sqT f2, f3, (show 2 ≤ 1000 by decide), (show 2 ≤ 1000 by decide), ?_⟩
  have l3 : Low (n * e) (d * m) x3 y3 := l3
  obtain ⟨rfl, rfl⟩ := l2.uniq l3 (Int.mul_ne_zero (by omega) h0)
  rw [decide_eq_true rfl]
  exact q _ ((c1.trans c2).trans c3)
abbrev s__law_two_hold : Stmt := topS 64
theorem sc__law_two_hold : FnScope ["a", "b"] ["a", "b"] (defScope s__law_two_hold) := ⟨rfl, rfl, rfl, by decide +kernel, rfl, by decide +kernel, by decide +kernel⟩
theorem c__law_two_hold (C__law_sums_hold : Cal P w K mg base 4 "_law_sums_hold" (sp__law_sums_hold K)) (C__law_over_refused : Cal P w K mg base 3 "_law_over_refused" (sp__law_over_refused K)) (C__law_order_holds : Cal P w K mg base 3 "_law_order_holds" (sp__law_order_holds K)) (C__law_floor_holds : Cal P w K mg base 2 "_law_floor_holds" (sp__law_floor_holds K))
    {f : Addr} {fd : FuncData} (F : DefF K mg "_law_two_hold" s__law_two_hold ["a", "b"] f fd) : Cal P w K mg base 5 "_law_two_hold" (sp__law_sums_hold K) := by
  refine cal_of F sc__law_two_hold (fun vs H Q E h => by obtain ⟨_, _, _, _, _, _, rfl, _⟩ := h; rfl) (fun cdv A outer s H vs Q E hr h => ?_)
  obtain ⟨a, b, n, d, m, e, rfl, fa, fb, d0, e0, b1, b2, b3, b4, q⟩ := h
  have B : ∀ {x : Int}, x.natAbs < 2 ^ 300 → x.natAbs < 2 ^ 3000 := fun h => abs_mono h (by decide)
  refine ⟨_, (pss_cons (ps_if (PW.pt (pw_or (pt_not (pt_val (pe_cc C__law_sums_hold hr (by decide) (by rfl) (pa_cons (pv 0) (pa_cons (pv 1) pa_nil))))) (pw_or1 (pt_not (pt_val (pe_cc C__law_sums_hold hr (by decide) (by rfl) (pa_cons (pv 1) (pa_cons (pv 0) pa_nil)))))))) (pss_one (ps_ret pe_bl)) pss_nil)
 (pss_cons (ps_if (PW.pt (pw_or (pt_not (pt_val (pe_cc C__law_over_refused hr (by decide) (by rfl) (pa_cons (pv 0) (pa_cons (pe_tup (pa_cons pe_int (pa_cons pe_int pa_nil))) pa_nil))))) (pw_or1 (pt_not (pt_val (pe_cc C__law_over_refused hr (by decide) (by rfl) (pa_cons (pe_tup (pa_cons pe_int (pa_cons pe_int pa_nil))) (pa_cons (pe_tup (pa_cons pe_int (pa_cons pe_int pa_nil))) pa_nil)))))))) (pss_one (ps_ret pe_bl)) pss_nil)
 (pss_cons (ps_if (PW.pt (pw_or (pt_not (pt_val (pe_cc C__law_order_holds hr (by decide) (by rfl) (pa_cons (pv 0) (pa_cons (pv 1) pa_nil))))) (pw_or (pt_not (pt_val (pe_cc C__law_order_holds hr (by decide) (by rfl) (pa_cons (pv 1) (pa_cons (pv 0) pa_nil))))) (pw_or1 (pt_not (pt_val (pe_cc C__law_order_holds hr (by decide) (by rfl) (pa_cons (pv 0) (pa_cons (pv 0) pa_nil))))))))) (pss_one (ps_ret pe_bl)) pss_nil)
 (pss_one (ps_ret (pe_and (pe_cc C__law_floor_holds hr (by decide) (by rfl) (pa_cons (pv 0) pa_nil)) (pe_one (pe_cc C__law_floor_holds hr (by decide) (by rfl) (pa_cons (pv 1) pa_nil))))))))), ?_⟩
  refine w_start (σ := [some _, some _]) rfl ?_
  walk_at "go"
  refine ⟨a, b, n, d, m, e, rfl, fa, fb, d0, e0, b1, b2, b3, b4, fun H1 c1 => ?_⟩
  walk_at "go"
  rw [if_neg (by decide)]
  walk_at "go"
  refine ⟨b, a, m, e, n, d, rfl, c1.sqT fb, c1.sqT fa, e0, d0, b3, b4, b1, b2, fun H2 c2 => ?_⟩
  have c := c1.trans c2
  walk_at "go"
  rw [if_neg (by decide)]
  walk_at "go"
  refine w_newT (show 2 ≤ sizeLine by decide) fun p H3 n3 c3 h3 => ?_
  have c := c.trans c3
  walk_at "go"
  refine ⟨a, p, n, d, 0, 1, rfl, c.sqT fa, .of h3, d0, by decide, B b1, B b2, by decide +kernel, rfl, fun H4 c4 => ?_⟩
  have c := c.trans c4
  walk_at "go"
  rw [if_neg (by decide)]
  walk_at "go"
  refine w_newT (show 2 ≤ sizeLine by decide) fun p5 H5 n5 c5 h5 => ?_
  have c := c.trans c5
  walk_at "go"
  refine w_newT (show 2 ≤ sizeLine by decide) fun p6 H6 n6 c6 h6 => ?_
  have c := c.trans c6
  walk_at "go"
  refine ⟨p5, p6, 0, 1, 0, 1, rfl, c6.sqT (.of h5), .of h6, by decide, by decide, by decide +kernel, by decide +kernel, by decide +kernel, rfl, fun H7 c7 => ?_⟩
  have c := c.trans c7
  walk_at "go"
  rw [if_neg (by decide)]
  walk_at "go"
  refine ⟨a, b, n, d, m, e, 300, rfl, c.sqT fa, c.sqT fb, b1, b2, b3, b4, by decide, ?_⟩
  walk_at "go"
  rw [if_neg (by decide)]
  walk_at "go"
  refine ⟨b, a, m, e, n, d, 300, rfl, c.sqT fb, c.sqT fa, b3, b4, b1, b2, by decide, ?_⟩
  walk_at "go"
  rw [if_neg (by decide)]
  walk_at "go"
  refine ⟨a, a, n, d, n, d, 300, rfl, c.sqT fa, c.sqT fa, b1, b2, b1, b2, by decide, ?_⟩
  walk_at "go"
  rw [if_neg (by decide)]
  walk_at "go"
  refine ⟨a, n, d, 300, rfl, c.sqT fa, d0, b1, b2, by decide, ?_⟩
  walk_at "go"
  rw [if_pos rfl]
  walk_at "go"
  refine ⟨b, m, e, 300, rfl, c.sqT fb, e0, b3, b4, by decide, ?_⟩
  exact q _ c
abbrev s__law_beside : Stmt := topS 57
theorem sc__law_beside : FnScope ["box", "a", "way", "shared"] ["box", "a"] (defScope s__law_beside) := ⟨rfl, rfl, rfl, by decide +kernel, rfl, by decide +kernel, by decide +kernel⟩
def sp__law_beside (K : PySem.W.Frag) : Sp := fun vs H Q _ => ∃ (b p : Addr) (n d : Int), vs = [.ref b, .ref p] ∧ RB H b ∧ Fr K H p n d ∧ Num n d ∧ ∀ (a : Addr) (m e : Int) H', Num m e → Ch [b] H H' → RB H' b → Fr K H' a m e → Q (.ref a) H'
theorem c__law_beside (T : Txt mg) (C__law_take : Cal P w K mg base 1 "_law_take" sp__law_take) (C__law_turned : Cal P w K mg base 2 "_law_turned" sp__law_turned) (C__law_limbs : Cal P w K mg base 2 "_law_limbs" sp__law_limbs) (C__law_lowest : Cal P w K mg base 2 "_law_lowest" (sp__law_lowest K)) (C__law_number : Cal P w K mg base 4 "_law_number" (sp__law_number K))
    {f : Addr} {fd : FuncData} (F : DefF K mg "_law_beside" s__law_beside ["box", "a"] f fd) : Cal P w K mg base 5 "_law_beside" (sp__law_beside K) := by
  refine cal_of F sc__law_beside (fun vs H Q E h => by obtain ⟨_, _, _, _, rfl, _⟩ := h; rfl) (fun cdv A outer s H vs Q E hr h => ?_)
  obtain ⟨b, p, n, d, rfl, B, fa, N, q⟩ := h
  refine ⟨_, (pss_cons (ps_set (i := 2) sc__law_beside.nd rfl (Or.inl rfl) (pe_cc C__law_take hr (by decide) (by rfl) (pa_cons (pv 0) (pa_cons pe_int pa_nil))))
 (pss_cons (ps_if (pt_cmpR op_eq (pv 2) pe_int (nomark _)) (pss_one (ps_ret (pv 1))) pss_nil)
 (pss_cons (ps_if (pt_cmpR op_eq (pv 2) pe_int (nomark _)) (pss_one (ps_ret (pe_tup (pa_cons (pe_un un_neg (pe_ix (k_ixT (K := K) rfl) (pv 1) pe_int (fun _ _ => rfl))) (pa_cons (pe_ix (k_ixT (K := K) rfl) (pv 1) pe_int (fun _ _ => rfl)) pa_nil))))) pss_nil)
 (pss_cons (ps_if (PW.pt (pw_and (pt_cmpR op_eq (pv 2) pe_int (nomark _)) (pw_and1 (pt_cmpR op_ne (pe_ix (k_ixT (K := K) rfl) (pv 1) pe_int (fun _ _ => rfl)) pe_int (nomark _))))) (pss_one (ps_ret (pe_cc C__law_lowest hr (by decide) (by rfl) (pa_cons (pe_cc C__law_turned hr (by decide) (by rfl) (pa_cons (pv 0) (pa_cons (pe_ix (k_ixT (K := K) rfl) (pv 1) pe_int (fun _ _ => rfl)) pa_nil))) (pa_cons (pe_ix (k_ixT (K := K) rfl) (pv 1) pe_int (fun _ _ => rfl)) pa_nil))))) pss_nil)
 (pss_cons (ps_if (PW.pt (pw_and (pt_cmpR op_eq (pv 2) pe_int (nomark _)) (pw_and (pt_cmpR op_le (pe_callB cb_abs (by rfl) T.z_abs (by decide +kernel) (pa_cons (pe_ix (k_ixT (K := K) rfl) (pv 1) pe_int (fun _ _ => rfl)) pa_nil)) (pe_op op_pow pe_int pe_int) (nomark _)) (pw_and1 (pt_cmpR op_le (pe_ix (k_ixT (K := K) rfl) (pv 1) pe_int (fun _ _ => rfl)) (pe_op op_pow pe_int pe_int) (nomark _)))))) (pss_cons (ps_set (i := 3) sc__law_beside.nd rfl (Or.inl rfl) (pe_op op_add pe_int (pe_cc C__law_limbs hr (by decide) (by rfl) (pa_cons (pv 0) (pa_cons pe_int pa_nil)))))
 (pss_one (ps_ret (pe_cc C__law_lowest hr (by decide) (by rfl) (pa_cons (pe_op op_sub (pe_op op_add (pe_op op_mulG (pe_ix (k_ixT (K := K) rfl) (pv 1) pe_int (fun _ _ => rfl)) (pv 3)) (pe_cc C__law_take hr (by decide) (by rfl) (pa_cons (pv 0) (pa_cons pe_int pa_nil)))) pe_int) (pa_cons (pe_op op_mulG (pe_ix (k_ixT (K := K) rfl) (pv 1) pe_int (fun _ _ => rfl)) (pv 3)) pa_nil)))))) pss_nil)
 (pss_cons (ps_if (PW.pt (pw_and (pt_cmpR op_eq (pv 2) pe_int (nomark _)) (pw_and (pt_cmpR op_le (pe_callB cb_abs (by rfl) T.z_abs (by decide +kernel) (pa_cons (pe_ix (k_ixT (K := K) rfl) (pv 1) pe_int (fun _ _ => rfl)) pa_nil)) (pe_op op_pow pe_int pe_int) (nomark _)) (pw_and1 (pt_cmpR op_le (pe_ix (k_ixT (K := K) rfl) (pv 1) pe_int (fun _ _ => rfl)) (pe_op op_pow pe_int pe_int) (nomark _)))))) (pss_one (ps_ret (pe_cc C__law_lowest hr (by decide) (by rfl) (pa_cons (pe_op op_add (pe_ix (k_ixT (K := K) rfl) (pv 1) pe_int (fun _ _ => rfl)) (pe_cc C__law_turned hr (by decide) (by rfl) (pa_cons (pv 0) (pa_cons (pe_ix (k_ixT (K := K) rfl) (pv 1) pe_int (fun _ _ => rfl)) pa_nil)))) (pa_cons (pe_ix (k_ixT (K := K) rfl) (pv 1) pe_int (fun _ _ => rfl)) pa_nil))))) pss_nil)
 (pss_one (ps_ret (pe_cc C__law_number hr (by decide) (by rfl) (pa_cons (pv 0) pa_nil)))))))))), ?_⟩
  refine w_start (σ := [some _, some _, none, none]) rfl ?_
  have d0 := N.pos
  have e19 : (10 : Int) ^ Int.toNat 19 = 10000000000000000000 := by decide +kernel
  have e39 : (10 : Int) ^ Int.toNat 39 = 1000000000000000000000000000000000000000 := by decide +kernel
  have e4 : (100000 : Int) ^ Int.toNat 4 = 100000000000000000000 := by decide +kernel
  have big : ∀ {x : Int} {j : Nat}, x.natAbs < 2 ^ j → j ≤ 300 → x.natAbs < 2 ^ 300 := fun h hj => abs_mono h hj
  have fin : ∀ {t u : Int} {Hx : Hp}, u ≠ 0 → t.natAbs < 2 ^ 300 → u.natAbs < 2 ^ 300 → Ch [b] H Hx → RB Hx b → sp__law_lowest K ([.int t, .int u] ++ []) Hx Q E0 := fun u0 ht hu c B => ⟨_, _, rfl, u0, abs_mono hu (by decide), fun a n d H' l c2 fr => q a n d H' (l.num ht hu) (c.trans0 c2) (B.mono c2) fr⟩
  walk_at "go"
  refine ⟨b, 6, rfl, B, by decide, by decide +kernel, fun way H1 w0 w1 c1 B1 => ?_⟩
  have last : ∀ {Hx : Hp}, Ch [b] H Hx → RB Hx b → sp__law_number K ([.ref b] ++ []) Hx Q E0 := fun c B => ⟨b, rfl, B, fun a n d H' N c2 B2 fr => q a n d H' N (c.trans c2) B2 fr⟩
  have fa1 := c1.sqT fa
  walk_at "go"
  refine ite_d (fun h0 => ?_) (fun h0 => ?_)
  · walk_at "go"
    exact q p n d _ N c1 B1 fa1
  walk_at "go"
  refine ite_d (fun h1 => ?_) (fun h1 => ?_)
  · walk_at "go"
    refine w_newT (show 2 ≤ sizeLine by decide) fun t H2 n2 c2 h2 => ?_
    exact q t _ _ H2 ⟨N.pos, by rw [Int.natAbs_neg]; exact N.cop, by rw [Int.natAbs_neg]; exact N.bn, N.bd⟩ (c1.trans0 c2) (B1.mono c2) (.of h2)
  walk_at "go"
  have r4 : sp__law_number K ([.ref b] ++ []) H1 Q E0 := last c1 B1
  refine ite_d (fun h2 => ?_) (fun h2 => ?_)
  · walk_at "go"
    refine ite_nd (fun g => ?_) (fun g => ?_)
    · walk_at "go"
      refine ⟨b, d, rfl, B1, fun u H2 eu c2 B2 => ?_⟩
      have fa2 := c2.sqT fa1
      walk_at "go"
      have ub : u.natAbs < 2 ^ 300 := by
        have := N.bd
        rcases eu with e | e <;> rw [e] <;> omega
      exact fin g ub N.bn (c1.trans c2) B2
    · walk_at "go"
      refine ite_d (fun h3 => ?_) (fun h3 => ?_)
      · walk_at "go"
        refine ite_d (fun g1 => ?_) (fun g1 => ?_)
        · walk_at "go"
          refine ite_d (fun g2 => ?_) (fun g2 => ?_)
          · rw [e19] at g1 g2
            walk_at "go"
            refine ⟨b, 4, rfl, B1, by decide, by decide, fun r H2 r0 r1 c2 B2 => ?_⟩
            rw [e4] at r1
            have fa2 := c2.sqT fa1
            have bn : n.natAbs < 2 ^ 70 := by omega
            have bd : d.natAbs < 2 ^ 70 := by omega
            have br : (1 + r).natAbs < 2 ^ 70 := by omega
            have m1 := mulb bn br
            have m2 := mulb bd br
            have m3 := Int.mul_pos d0 (show 0 < 1 + r by omega)
            walk_at "go"
            refine w_I (mul_ok bn br (by decide)) ?_
            walk_at "go"
            refine ⟨b, 3, rfl, B2, by decide, by decide +kernel, fun r3 H3 t0 t1 c3 B3 => ?_⟩
            have fa3 := c3.sqT fa2
            walk_at "go"
            refine w_I (mul_ok bd br (by decide)) ?_
            walk_at "go"
            refine fin (by omega) (big (j := 150) ?_ (by decide)) (big m2 (by decide)) ((c1.trans c2).trans c3) B3
            rw [show (2 : Nat) ^ 150 = 2 ^ 140 * 1024 by decide +kernel]
            have m1 : (n * (1 + r)).natAbs < 2 ^ 140 := m1
            omega
          · walk_at "go"
            refine ite_d (fun h4 => ?_) (fun h4 => ?_)
            · walk_at "go"
              refine ite_d (fun g1 => ?_) (fun g1 => ?_)
              · walk_at "go"
                refine ite_d (fun g2 => ?_) (fun g2 => ?_)
                · walk_at "go"
                  refine ⟨b, d, rfl, B1, fun u H2 eu c2 B2 => ?_⟩
                  have fa2 := c2.sqT fa1
                  walk_at "go"
                  have ub : (n + u).natAbs < 2 ^ 140 := by
                    rw [e39] at g1 g2
                    rcases eu with e | e <;> rw [e] <;> omega
                  exact fin (by omega) (big ub (by decide)) N.bd (c1.trans c2) B2
                · walk_at "go"
                  exact r4
              · refine ite_f ?_
                walk_at "go"
                exact r4
            · refine ite_f ?_
              walk_at "go"
              exact r4
        · refine ite_f ?_
          walk_at "go"
          refine ite_d (fun h4 => ?_) (fun h4 => ?_)
          · walk_at "go"
            refine ite_d (fun g1 => ?_) (fun g1 => ?_)
            · walk_at "go"
              refine ite_d (fun g2 => ?_) (fun g2 => ?_)
              · walk_at "go"
                refine ⟨b, d, rfl, B1, fun u H2 eu c2 B2 => ?_⟩
                have fa2 := c2.sqT fa1
                walk_at "go"
                have ub : (n + u).natAbs < 2 ^ 140 := by
                  rw [e39] at g1 g2
                  rcases eu with e | e <;> rw [e] <;> omega
                exact fin (by omega) (big ub (by decide)) N.bd (c1.trans c2) B2
              · walk_at "go"
                exact r4
            · refine ite_f ?_
              walk_at "go"
              exact r4
          · refine ite_f ?_
            walk_at "go"
            exact r4
      · refine ite_f ?_
        walk_at "go"
        refine ite_d (fun h4 => ?_) (fun h4 => ?_)
        · walk_at "go"
          refine ite_d (fun g1 => ?_) (fun g1 => ?_)
          · walk_at "go"
            refine ite_d (fun g2 => ?_) (fun g2 => ?_)
            · walk_at "go"
              refine ⟨b, d, rfl, B1, fun u H2 eu c2 B2 => ?_⟩
              have fa2 := c2.sqT fa1
              walk_at "go"
              have ub : (n + u).natAbs < 2 ^ 140 := by
                rw [e39] at g1 g2
                rcases eu with e | e <;> rw [e] <;> omega
              exact fin (by omega) (big ub (by decide)) N.bd (c1.trans c2) B2
            · walk_at "go"
              exact r4
          · refine ite_f ?_
            walk_at "go"
            exact r4
        · refine ite_f ?_
          walk_at "go"
          exact r4
  · refine ite_f ?_
    walk_at "go"
    refine ite_d (fun h3 => ?_) (fun h3 => ?_)
    · walk_at "go"
      refine ite_d (fun g1 => ?_) (fun g1 => ?_)
      · walk_at "go"
        refine ite_d (fun g2 => ?_) (fun g2 => ?_)
        · rw [e19] at g1 g2
          walk_at "go"
          refine ⟨b, 4, rfl, B1, by decide, by decide, fun r H2 r0 r1 c2 B2 => ?_⟩
          rw [e4] at r1
          have fa2 := c2.sqT fa1
          have bn : n.natAbs < 2 ^ 70 := by omega
          have bd : d.natAbs < 2 ^ 70 := by omega
          have br : (1 + r).natAbs < 2 ^ 70 := by omega
          have m1 := mulb bn br
          have m2 := mulb bd br
          have m3 := Int.mul_pos d0 (show 0 < 1 + r by omega)
          walk_at "go"
          refine w_I (mul_ok bn br (by decide)) ?_
          walk_at "go"
          refine ⟨b, 3, rfl, B2, by decide, by decide +kernel, fun r3 H3 t0 t1 c3 B3 => ?_⟩
          have fa3 := c3.sqT fa2
          walk_at "go"
          refine w_I (mul_ok bd br (by decide)) ?_
          walk_at "go"
          refine fin (by omega) (big (j := 150) ?_ (by decide)) (big m2 (by decide)) ((c1.trans c2).trans c3) B3
          rw [show (2 : Nat) ^ 150 = 2 ^ 140 * 1024 by decide +kernel]
          have m1 : (n * (1 + r)).natAbs < 2 ^ 140 := m1
          omega
        · walk_at "go"
          refine ite_d (fun h4 => ?_) (fun h4 => ?_)
          · walk_at "go"
            refine ite_d (fun g1 => ?_) (fun g1 => ?_)
            · walk_at "go"
              refine ite_d (fun g2 => ?_) (fun g2 => ?_)
              · walk_at "go"
                refine ⟨b, d, rfl, B1, fun u H2 eu c2 B2 => ?_⟩
                have fa2 := c2.sqT fa1
                walk_at "go"
                have ub : (n + u).natAbs < 2 ^ 140 := by
                  rw [e39] at g1 g2
                  rcases eu with e | e <;> rw [e] <;> omega
                exact fin (by omega) (big ub (by decide)) N.bd (c1.trans c2) B2
              · walk_at "go"
                exact r4
            · refine ite_f ?_
              walk_at "go"
              exact r4
          · refine ite_f ?_
            walk_at "go"
            exact r4
      · refine ite_f ?_
        walk_at "go"
        refine ite_d (fun h4 => ?_) (fun h4 => ?_)
        · walk_at "go"
          refine ite_d (fun g1 => ?_) (fun g1 => ?_)
          · walk_at "go"
            refine ite_d (fun g2 => ?_) (fun g2 => ?_)
            · walk_at "go"
              refine ⟨b, d, rfl, B1, fun u H2 eu c2 B2 => ?_⟩
              have fa2 := c2.sqT fa1
              walk_at "go"
              have ub : (n + u).natAbs < 2 ^ 140 := by
                rw [e39] at g1 g2
                rcases eu with e | e <;> rw [e] <;> omega
              exact fin (by omega) (big ub (by decide)) N.bd (c1.trans c2) B2
            · walk_at "go"
              exact r4
          · refine ite_f ?_
            walk_at "go"
            exact r4
        · refine ite_f ?_
          walk_at "go"
          exact r4
    · refine ite_f ?_
      walk_at "go"
      refine ite_d (fun h4 => ?_) (fun h4 => ?_)
      · walk_at "go"
        refine ite_d (fun g1 => ?_) (fun g1 => ?_)
        · walk_at "go"
          refine ite_d (fun g2 => ?_) (fun g2 => ?_)
          · walk_at "go"
            refine ⟨b, d, rfl, B1, fun u H2 eu c2 B2 => ?_⟩
            have fa2 := c2.sqT fa1
            walk_at "go"
            have ub : (n + u).natAbs < 2 ^ 140 := by
              rw [e39] at g1 g2
              rcases eu with e | e <;> rw [e] <;> omega
            exact fin (by omega) (big ub (by decide)) N.bd (c1.trans c2) B2
          · walk_at "go"
            exact r4
        · refine ite_f ?_
          walk_at "go"
          exact r4
      · refine ite_f ?_
        walk_at "go"
        exact r4
end
end My
namespace My
open PySem PySem.Spec PyProof.Rows L2
/-! the run: a path of fractions, the deeds between them -/
theorem low_uniq {t b n d m e : Int} (dp : 0 < d) (dc : Nat.gcd n.natAbs d.natAbs = 1) (de : n * b = d * t) (k : Low t b m e) (hb : b ≠ 0) : n = m ∧ d = e := by
  have a1 : n * e = d * m := by
    have z : b * (n * e) = b * (d * m) := by
      calc b * (n * e) = n * b * e := by simp only [Int.mul_assoc, Int.mul_left_comm, Int.mul_comm]
        _ = d * (e * t) := by rw [de]; simp only [Int.mul_assoc, Int.mul_left_comm, Int.mul_comm]
        _ = d * (m * b) := by rw [k.eq]
        _ = b * (d * m) := by simp only [Int.mul_assoc, Int.mul_left_comm, Int.mul_comm]
    exact Int.eq_of_mul_eq_mul_left hb z
  have l1 : Low n d n d := ⟨dp, dc, by rw [Int.mul_comm], Nat.le_refl _, Nat.le_refl _⟩
  have l2 : Low m e m e := ⟨k.pos, k.cop, by rw [Int.mul_comm], Nat.le_refl _, Nat.le_refl _⟩
  have a3 : n.natAbs * e.natAbs = d.natAbs * m.natAbs := by rw [← Int.natAbs_mul, ← Int.natAbs_mul, a1]
  have c1 : Nat.Coprime d.natAbs n.natAbs := by rw [Nat.Coprime, Nat.gcd_comm]; exact dc
  have c2 : Nat.Coprime e.natAbs m.natAbs := by rw [Nat.Coprime, Nat.gcd_comm]; exact k.cop
  have d1 : d.natAbs ∣ e.natAbs := c1.dvd_of_dvd_mul_left (by rw [a3]; exact Nat.dvd_mul_right _ _)
  have d2 : e.natAbs ∣ d.natAbs := c2.dvd_of_dvd_mul_right (by rw [← a3]; exact Nat.dvd_mul_left _ _)
  have kp := k.pos
  have ee : d = e := by
    have := Nat.dvd_antisymm d1 d2
    omega
  subst ee
  refine ⟨?_, rfl⟩
  rw [Int.mul_comm] at a1
  exact Int.eq_of_mul_eq_mul_left (by omega) a1
def inv (deed : Int) : Int := if deed = 0 then 1 else if deed = 1 then 0 else if deed = 2 then 3 else 2
theorem low_undo {deed n d m e x y x' y' : Int} (hd : deed = 0 ∨ deed = 1 ∨ deed = 2 ∨ deed = 3) (dp : 0 < d) (dc : Nat.gcd n.natAbs d.natAbs = 1) (e0 : 0 < e) (m0 : 1 < deed → m ≠ 0)
    (l : Low (duT deed n d m e) (duB deed n d m e) x y) (k : Low (duT (inv deed) x y m e) (duB (inv deed) x y m e) x' y') : n = x' ∧ d = y' := by
  have y0 := l.pos
  have le := l.eq
  rcases hd with h | h | h | h <;> subst h
  · have le : x * (d * e) = y * (n * e + m * d) := le
    refine low_uniq dp dc (?_ : n * (y * e) = d * (x * e - m * y)) k (Int.mul_ne_zero (by omega) (by omega))
    rw [Int.mul_add] at le
    rw [Int.mul_sub]
    simp only [Int.mul_assoc, Int.mul_left_comm, Int.mul_comm] at le ⊢
    omega
  · have le : x * (d * e) = y * (n * e - m * d) := le
    refine low_uniq dp dc (?_ : n * (y * e) = d * (x * e + m * y)) k (Int.mul_ne_zero (by omega) (by omega))
    rw [Int.mul_sub] at le
    rw [Int.mul_add]
    simp only [Int.mul_assoc, Int.mul_left_comm, Int.mul_comm] at le ⊢
    omega
  · have le : x * (d * e) = y * (n * m) := le
    refine low_uniq dp dc (?_ : n * (y * m) = d * (x * e)) k (Int.mul_ne_zero (by omega) (m0 (by decide)))
    simp only [Int.mul_assoc, Int.mul_left_comm, Int.mul_comm] at le ⊢
    omega
  · have le : x * (d * m) = y * (n * e) := le
    refine low_uniq dp dc (?_ : n * (y * e) = d * (x * m)) k (Int.mul_ne_zero (by omega) (by omega))
    simp only [Int.mul_assoc, Int.mul_left_comm, Int.mul_comm] at le ⊢
    omega
theorem du_bound {deed n d m e : Int} {z : Nat} (hd : deed = 0 ∨ deed = 1 ∨ deed = 2 ∨ deed = 3) (b1 : n.natAbs < 2 ^ z) (b2 : d.natAbs < 2 ^ z) (b3 : m.natAbs < 2 ^ 300) (b4 : e.natAbs < 2 ^ 300) : (duT deed n d m e).natAbs < 2 ^ (z + 301) ∧ (duB deed n d m e).natAbs < 2 ^ (z + 301) := by
  have p1 := mulb b1 b4
  have p2 := mulb b2 b4
  have p3 := mulb b3 b2
  have p4 := mulb b1 b3
  have p5 := mulb b2 b3
  rw [Nat.add_comm 300 z] at p3
  have ee : 2 ^ (z + 301) = 2 * 2 ^ (z + 300) := by rw [show z + 301 = (z + 300) + 1 from rfl, Nat.pow_succ, Nat.mul_comm]
  rw [ee]
  generalize 2 ^ (z + 300) = N at *
  rcases hd with h | h | h | h <;> subst h
  · exact ⟨show (n * e + m * d).natAbs < 2 * N by omega, show (d * e).natAbs < 2 * N by omega⟩
  · exact ⟨show (n * e - m * d).natAbs < 2 * N by omega, show (d * e).natAbs < 2 * N by omega⟩
  · exact ⟨show (n * m).natAbs < 2 * N by omega, show (d * e).natAbs < 2 * N by omega⟩
  · exact ⟨show (n * e).natAbs < 2 * N by omega, show (d * m).natAbs < 2 * N by omega⟩
structure PR where
  a : Addr
  n : Int
  d : Int
structure DR where
  t : Addr
  deed : Int
  o : Addr
  m : Int
  e : Int
/-- a fraction of the path in the k-th place -/
structure POk (K : PySem.W.Frag) (H : Hp) (k : Nat) (p : PR) : Prop where
  fr : Fr K H p.a p.n p.d
  pos : 0 < p.d
  cop : Nat.gcd p.n.natAbs p.d.natAbs = 1
  bn : p.n.natAbs < 2 ^ (300 + 301 * k)
  bd : p.d.natAbs < 2 ^ (300 + 301 * k)
structure DOk (K : PySem.W.Frag) (H : Hp) (r : DR) : Prop where
  tup : H r.t = some (.tup [.int r.deed, .ref r.o])
  fr : Fr K H r.o r.m r.e
  num : Num r.m r.e
  g : r.deed = 0 ∨ r.deed = 1 ∨ r.deed = 2 ∨ r.deed = 3
  m0 : 1 < r.deed → r.m ≠ 0
structure Run (K : PySem.W.Frag) (H : Hp) (ps : List PR) (ds : List DR) : Prop where
  len : ps.length = ds.length + 1
  hp : ∀ {k : Nat} {p : PR}, ps[k]? = some p → POk K H k p
  hd : ∀ {k : Nat} {r : DR}, ds[k]? = some r → DOk K H r
  hs : ∀ {k : Nat} {r : DR} {p p' : PR}, ds[k]? = some r → ps[k]? = some p → ps[k + 1]? = some p' → Low (duT r.deed p.n p.d r.m r.e) (duB r.deed p.n p.d r.m r.e) p'.n p'.d
section
variable {K : PySem.W.Frag} {H H' : Hp} {L : List Addr} {ps : List PR} {ds : List DR}
theorem Run.ch (R : Run K H ps ds) (c : Ch L H H') : Run K H' ps ds :=
  ⟨R.len, fun h => let q := R.hp h; ⟨c.sqT q.fr, q.pos, q.cop, q.bn, q.bd⟩, fun h => let q := R.hd h; ⟨c.tup q.tup, c.sqT q.fr, q.num, q.g, q.m0⟩, R.hs⟩
theorem Run.one {p : PR} (h : POk K H 0 p) : Run K H [p] [] where
  len := rfl
  hp := fun {k q} e => by
    cases k with
    | zero =>
      cases e
      exact h
    | succ k => cases e
  hd := fun {k r} e => by cases e
  hs := fun {k r p p'} e => by cases e
theorem Run.snoc (R : Run K H ps ds) {r : DR} {p p' : PR} (hr : DOk K H r) (hp : ps[ds.length]? = some p) (hp' : POk K H (ds.length + 1) p') (l : Low (duT r.deed p.n p.d r.m r.e) (duB r.deed p.n p.d r.m r.e) p'.n p'.d) : Run K H (ps ++ [p']) (ds ++ [r]) where
  len := by rw [List.length_append, List.length_append, R.len]; rfl
  hp := fun {k q} e => by
    by_cases h : k < ps.length
    · rw [List.getElem?_append_left h] at e
      exact R.hp e
    · have hk : k = ds.length + 1 := by
        have := (List.getElem?_eq_some_iff.mp e).1
        rw [List.length_append] at this
        have l1 := R.len
        simp only [List.length_cons, List.length_nil] at this
        omega
      subst hk
      rw [← R.len, List.getElem?_append_right (Nat.le_refl _), Nat.sub_self] at e
      cases e
      exact hp'
  hd := fun {k q} e => by
    by_cases h : k < ds.length
    · rw [List.getElem?_append_left h] at e
      exact R.hd e
    · rw [List.getElem?_append_right (by omega)] at e
      have := List.mem_of_getElem? e
      rw [List.mem_singleton] at this
      subst this
      exact hr
  hs := fun {k q a a'} e1 e2 e3 => by
    by_cases h : k < ds.length
    · rw [List.getElem?_append_left h] at e1
      rw [List.getElem?_append_left (by rw [R.len]; omega)] at e2 e3
      exact R.hs e1 e2 e3
    · have hk : k = ds.length := by
        have := (List.getElem?_eq_some_iff.mp e1).1
        rw [List.length_append] at this
        simp only [List.length_cons, List.length_nil] at this
        omega
      subst hk
      rw [List.getElem?_append_right (Nat.le_refl _), Nat.sub_self] at e1
      rw [List.getElem?_append_left (by rw [R.len]; omega), hp] at e2
      rw [← R.len, List.getElem?_append_right (Nat.le_refl _), Nat.sub_self] at e3
      cases e1
      cases e2
      cases e3
      exact l
theorem Run.p_at (R : Run K H ps ds) {k : Nat} (h : k ≤ ds.length) : ∃ p, ps[k]? = some p := ⟨_, List.getElem?_eq_getElem (by rw [R.len]; omega)⟩
theorem Run.d_at (R : Run K H ps ds) {k : Nat} (h : k < ds.length) : ∃ r, ds[k]? = some r := ⟨_, List.getElem?_eq_getElem h⟩
theorem pref_at {k : Nat} {p : PR} (h : ps[k]? = some p) : (ps.map fun p => V.ref p.a)[k]? = some (.ref p.a) := by rw [List.getElem?_map, h]; rfl
theorem dref_at {k : Nat} {r : DR} (h : ds[k]? = some r) : (ds.map fun r => V.ref r.t)[k]? = some (.ref r.t) := by rw [List.getElem?_map, h]; rfl
theorem DOk.i0 {r : DR} (d : DOk K H r) {Q : VK} (q : Q (.int r.deed) H) : rIxT K (.ref r.t) (.int 0) H Q := w_ixT (.of d.tup) (show atI [V.int r.deed, .ref r.o] 0 = some _ from rfl) q
theorem DOk.i1 {r : DR} (d : DOk K H r) {Q : VK} (q : Q (.ref r.o) H) : rIxT K (.ref r.t) (.int 1) H Q := w_ixT (.of d.tup) (show atI [V.int r.deed, .ref r.o] 1 = some _ from rfl) q
end
end My
namespace My
open PySem PySem.Spec PyProof.Rows L2
section
variable {P : Program} {w : World} {K : PySem.W.Frag} {mg : Str → Option Value} {base : Heap}
theorem inv_g {x : Int} (h : x = 0 ∨ x = 1 ∨ x = 2 ∨ x = 3) : 0 ≤ inv x ∧ inv x ≤ 3 ∧ (inv x = 3 → x = 2) ∧ atI [V.int 1, .int 0, .int 3, .int 2] x = some (.int (inv x)) := by
  rcases h with h | h | h | h <;> subst h <;> exact ⟨by decide, by decide, by decide, rfl⟩
abbrev s__law_run_holds : Stmt := topS 65
theorem sc__law_run_holds : FnScope ["box", "path", "deeds", "turn", "deed", "other", "told", "k", "at"] ["box"] (defScope s__law_run_holds) := ⟨rfl, rfl, rfl, by decide +kernel, rfl, by decide +kernel, by decide +kernel⟩
def sp__law_run_holds : Sp := fun vs H Q _ => ∃ (b : Addr), vs = [.ref b] ∧ RB H b ∧ ∀ H', Ch [b] H H' → Q (.bl true) H'
theorem c__law_run_holds (T : Txt mg) (C__law_take : Cal P w K mg base 1 "_law_take" sp__law_take) (C__law_number : Cal P w K mg base 4 "_law_number" (sp__law_number K)) (C__law_due : Cal P w K mg base 3 "_law_due" (sp__law_due K)) (C__law_done : Cal P w K mg base 3 "_law_done" (sp__law_done K))
    (C__law_same : Cal P w K mg base 2 "_law_same" (sp__law_same K)) (C__law_order_holds : Cal P w K mg base 3 "_law_order_holds" (sp__law_order_holds K)) (C__law_floor_holds : Cal P w K mg base 2 "_law_floor_holds" (sp__law_floor_holds K))
    {f : Addr} {fd : FuncData} (F : DefF K mg "_law_run_holds" s__law_run_holds ["box"] f fd) : Cal P w K mg base 5 "_law_run_holds" sp__law_run_holds := by
  refine cal_of F sc__law_run_holds (fun vs H Q E h => by obtain ⟨_, rfl, _⟩ := h; rfl) (fun cdv A outer s H vs Q E hr h => ?_)
  obtain ⟨b, rfl, B, q⟩ := h
  refine ⟨_, (pss_cons (ps_set (i := 1) sc__law_run_holds.nd rfl (Or.inl rfl) (pe_lst (pa_cons (pe_cc C__law_number hr (by decide) (by rfl) (pa_cons (pv 0) pa_nil)) pa_nil)))
 (pss_cons (ps_set (i := 2) sc__law_run_holds.nd rfl (Or.inl rfl) (pe_lst pa_nil))
 (pss_cons (ps_for PassesOwn.never rfl (pi_range1 (by rfl) T.z_range (pa_cons (pe_op op_add pe_int (pe_cc C__law_take hr (by decide) (by rfl) (pa_cons (pv 0) (pa_cons pe_int pa_nil)))) pa_nil)) (pg_name (i := 3) sc__law_run_holds.nd rfl (Or.inl rfl)) (pss_cons (ps_set (i := 4) sc__law_run_holds.nd rfl (Or.inl rfl) (pe_cc C__law_take hr (by decide) (by rfl) (pa_cons (pv 0) (pa_cons pe_int pa_nil))))
 (pss_cons (ps_set (i := 5) sc__law_run_holds.nd rfl (Or.inl rfl) (pe_cc C__law_number hr (by decide) (by rfl) (pa_cons (pv 0) pa_nil)))
 (Evl.pss_cut (ps_if (PW.pt (pw_and (pt_cmpR op_gt (pv 4) pe_int (nomark _)) (pw_and1 (pt_cmpR op_eq (pe_ix (k_ixT (K := K) rfl) (pv 5) pe_int (fun _ _ => rfl)) pe_int (nomark _))))) (pss_one (ps_set (i := 5) sc__law_run_holds.nd rfl (Or.inl rfl) (pe_tup (pa_cons pe_int (pa_cons pe_int pa_nil))))) pss_nil)
 (pss_cons (ps_expr (pe_bm PySem.F.plainAttrs_list PySem.F.slot_list_append PySem.F.type_list_append mt_append (pv 2) (pa_cons (pe_tup (pa_cons (pv 4) (pa_cons (pv 5) pa_nil))) pa_nil)))
 (pss_one (ps_expr (pe_bm PySem.F.plainAttrs_list PySem.F.slot_list_append PySem.F.type_list_append mt_append (pv 1) (pa_cons (pe_cc C__law_due hr (by decide) (by rfl) (pa_cons (pv 4) (pa_cons (pe_ix (k_ixL (K := K) rfl) (pv 1) (pv 3) (fun _ _ => rfl)) (pa_cons (pv 5) pa_nil)))) pa_nil)))))))))
 (pss_cons (ps_set (i := 6) sc__law_run_holds.nd rfl (Or.inl rfl) (pe_ix (k_ixL (K := K) rfl) (pv 1) pe_int (fun _ _ => rfl)))
 (pss_cons (ps_for PassesOwn.never rfl (pi_range1 (by rfl) T.z_range (pa_cons (pe_callB (k_len (K := K) rfl) (by rfl) T.z_len PySem.boot_len (pa_cons (pv 2) pa_nil)) pa_nil)) (pg_name (i := 7) sc__law_run_holds.nd rfl (Or.inl rfl)) (pss_cons (ps_set (i := 6) sc__law_run_holds.nd rfl (Or.inl rfl) (pe_cc C__law_done hr (by decide) (by rfl) (pa_cons (pe_ix (k_ixT (K := K) rfl) (pe_ix (k_ixL (K := K) rfl) (pv 2) (pv 7) (fun _ _ => rfl)) pe_int (fun _ _ => rfl)) (pa_cons (pv 6) (pa_cons (pe_ix (k_ixT (K := K) rfl) (pe_ix (k_ixL (K := K) rfl) (pv 2) (pv 7) (fun _ _ => rfl)) pe_int (fun _ _ => rfl)) pa_nil)))))
 (pss_cons (ps_if (pt_not (pt_val (pe_cc C__law_same hr (by decide) (by rfl) (pa_cons (pv 6) (pa_cons (pe_ix (k_ixL (K := K) rfl) (pv 1) (pe_op op_add (pv 7) pe_int) (fun _ _ => rfl)) pa_nil))))) (pss_one (ps_ret pe_bl)) pss_nil)
 (pss_one (ps_if (PW.pt (pw_or (pt_not (pt_val (pe_cc C__law_order_holds hr (by decide) (by rfl) (pa_cons (pv 6) (pa_cons (pe_ix (k_ixL (K := K) rfl) (pv 1) pe_int (fun _ _ => rfl)) pa_nil))))) (pw_or1 (pt_not (pt_val (pe_cc C__law_floor_holds hr (by decide) (by rfl) (pa_cons (pv 6) pa_nil))))))) (pss_one (ps_ret pe_bl)) pss_nil)))))
 (pss_cons (ps_for PassesOwn.never rfl (pi_range1 (by rfl) T.z_range (pa_cons (pe_callB (k_len (K := K) rfl) (by rfl) T.z_len PySem.boot_len (pa_cons (pv 2) pa_nil)) pa_nil)) (pg_name (i := 7) sc__law_run_holds.nd rfl (Or.inl rfl)) (pss_cons (ps_set (i := 8) sc__law_run_holds.nd rfl (Or.inl rfl) (pe_op op_sub (pe_op op_sub (pe_callB (k_len (K := K) rfl) (by rfl) T.z_len PySem.boot_len (pa_cons (pv 2) pa_nil)) pe_int) (pv 7)))
 (pss_cons (ps_set (i := 6) sc__law_run_holds.nd rfl (Or.inl rfl) (pe_cc C__law_done hr (by decide) (by rfl) (pa_cons (pe_ix (k_ixL (K := K) rfl) (pe_lst (pa_cons pe_int (pa_cons pe_int (pa_cons pe_int (pa_cons pe_int pa_nil))))) (pe_ix (k_ixT (K := K) rfl) (pe_ix (k_ixL (K := K) rfl) (pv 2) (pv 8) (fun _ _ => rfl)) pe_int (fun _ _ => rfl)) (fun _ _ => rfl)) (pa_cons (pv 6) (pa_cons (pe_ix (k_ixT (K := K) rfl) (pe_ix (k_ixL (K := K) rfl) (pv 2) (pv 8) (fun _ _ => rfl)) pe_int (fun _ _ => rfl)) pa_nil)))))
 (pss_one (ps_if (pt_not (pt_val (pe_cc C__law_same hr (by decide) (by rfl) (pa_cons (pv 6) (pa_cons (pe_ix (k_ixL (K := K) rfl) (pv 1) (pv 8) (fun _ _ => rfl)) pa_nil))))) (pss_one (ps_ret pe_bl)) pss_nil)))))
 (pss_one (ps_ret pe_bl)))))))), ?_⟩
  refine w_start (σ := [some _, none, none, none, none, none, none, none, none]) rfl ?_
  have B3 : ∀ {x : Int} {z : Nat}, x.natAbs < 2 ^ z → z ≤ 3000 → x.natAbs < 2 ^ 3000 := fun h hz => abs_mono h hz
  walk_at "go"
  refine ⟨b, rfl, B, fun a0 n0 d0 H1 N0 c1 B1 f0 => ?_⟩
  walk_at "go"
  refine w_newL (show 1 ≤ sizeLine by decide) fun pa H2 np c2 hpa => ?_
  walk_at "go"
  refine w_newL (show 0 ≤ sizeLine by decide) fun dl H3 nd c3 hdl => ?_
  have npH : H pa = none := c1.free np
  have ndH : H dl = none := c1.free (c2.free nd)
  have nbp : b ≠ pa := B1.ne np
  have nbd : b ≠ dl := (B1.mono c2).ne nd
  have npd : pa ≠ dl := ne_of_none hpa nd
  walk_at "go"
  refine ⟨b, 5, rfl, (B1.mono c2).mono c3, by decide, by decide +kernel, fun r H4 r0 r1 c4 B4 => ?_⟩
  have c04 : Ch [b] H H4 := ((c1.trans0 c2).trans0 c3).trans c4
  walk_at "go"
  refine w_iR1r (by omega) (by omega) ?_
  refine for_R (n := (1 + r).toNat) (fun i σ H' => Ch [b] H H' ∧ RB H' b ∧ ∃ (ps : List PR) (ds : List DR) (z3 z4 z5 : Option V), Run K H' ps ds ∧ ds.length = i ∧ H' pa = some (.lst (ps.map fun p => .ref p.a)) ∧ H' dl = some (.lst (ds.map fun r => .ref r.t)) ∧ σ = [some (.ref b), some (.ref pa), some (.ref dl), z3, z4, z5, none, none, none]) ?_ ?_ ?_
  · refine ⟨c04, B4, [⟨a0, n0, d0⟩], [], none, none, none, ?_, rfl, ?_, ?_, rfl⟩
    · exact ((Run.one (p := ⟨a0, n0, d0⟩) ⟨f0, N0.pos, N0.cop, N0.bn, N0.bd⟩).ch (c2.trans c3)).ch c4
    · exact c4.at1 nbp.symm (c3.at0 hpa)
    · exact c4.at1 nbd.symm hdl
  · rintro i σ H5 hi ⟨c5, B5, ps, ds, z3, z4, z5, R, ld, hpa, hdl, rfl⟩
    walk_at "go"
    refine ⟨b, 4, rfl, B5, by decide, by decide +kernel, fun dd H6 d0' d1' c6 B6 => ?_⟩
    walk_at "go"
    refine ⟨b, rfl, B6, fun o m e H7 N7 c7 B7 f7 => ?_⟩
    have R := (R.ch c6).ch c7
    have hpa := c7.at1 nbp.symm (c6.at1 nbp.symm hpa)
    have hdl := c7.at1 nbd.symm (c6.at1 nbd.symm hdl)
    have c07 := (c5.trans c6).trans c7
    have N12 : Num 1 2 := ⟨by decide, by decide, by decide +kernel, by decide +kernel⟩
    walk_at "go"
    refine w_cut (M := fun σ' H' => Ch [] H7 H' ∧ ∃ (o : Addr) (m e : Int), σ' = [some (.ref b), some (.ref pa), some (.ref dl), some (.int (0 + (i : Int))), some (.int dd), some (.ref o), none, none, none] ∧ Fr K H' o m e ∧ Num m e ∧ (1 < dd → m ≠ 0)) ?_ ?_
    · walk_at "go"
      refine ite_d (fun g => ?_) (fun g => ?_)
      · walk_at "go"
        refine ite_d (fun g2 => ?_) (fun g2 => ?_)
        · walk_at "go"
          refine w_newT (show 2 ≤ sizeLine by decide) fun t H8 n8 c8 h8 => ?_
          exact ⟨c8, t, 1, 2, rfl, .of h8, N12, fun _ => by decide⟩
        · walk_at "go"
          exact ⟨.refl, o, m, e, rfl, f7, N7, fun _ => g2⟩
      · refine ite_f ?_
        walk_at "go"
        exact ⟨.refl, o, m, e, rfl, f7, N7, fun h => absurd h (by omega)⟩
    rintro σ' H8 ⟨c8, o, m, e, rfl, f8, N8, m0⟩
    have R := R.ch c8
    have hpa := c8.at0 hpa
    have hdl := c8.at0 hdl
    have B8 := B7.mono c8
    have c08 := c07.trans0 c8
    walk_at "go"
    refine ⟨.inl ⟨rfl, _, .of hdl⟩, ?_⟩
    walk_at "go"
    refine w_newT (show 2 ≤ sizeLine by decide) fun t H9 n9 c9 h9 => ?_
    have ntd : dl ≠ t := ne_of_none hdl n9
    have R := R.ch c9
    have hpa := c9.at0 hpa
    have hdl := c9.at0 hdl
    have B9 := B8.mono c9
    have f9 := c9.sqT f8
    have c09 := c08.trans0 c9
    walk_at "go"
    refine w_append hdl (sz_lt (by rw [List.length_map]; omega)) fun H10 c10 h10 => ?_
    have R := R.ch c10
    have hpa := c10.at1 npd hpa
    have B10 := B9.mono1 nbd c10
    have f10 := c10.sqT f9
    have h9 := c10.tup h9
    have c010 := Ch.cut c09 ndH c10
    obtain ⟨p, hp⟩ := R.p_at (k := i) (by omega)
    have pk := R.hp hp
    walk_at "go"
    refine ⟨.inl ⟨rfl, _, .of hpa⟩, ?_⟩
    walk_at "go"
    refine w_ixk hpa (k := i) (by omega) (pref_at hp) ?_
    walk_at "go"
    refine ⟨p.a, o, dd, p.n, p.d, m, e, 300 + 301 * i, rfl, pk.fr, f10, pk.pos, N8.pos, pk.bn, pk.bd, N8.bn, N8.bd, by omega, d0', by omega, fun h => m0 (by omega), fun t2 x y H11 l11 c11 f11 => ?_⟩
    walk_at "go"
    have gg : dd = 0 ∨ dd = 1 ∨ dd = 2 ∨ dd = 3 := by omega
    have bb := du_bound gg pk.bn pk.bd N8.bn N8.bd
    have ez : 300 + 301 * i + 301 = 300 + 301 * (ds.length + 1) := by omega
    rw [ez] at bb
    refine w_append (c11.at0 hpa) (sz_lt (by rw [List.length_map, R.len]; omega)) fun H12 c12 h12 => ?_
    refine ⟨Ch.cut (c010.trans0 c11) npH c12, (B10.mono c11).mono1 nbp c12, ps ++ [⟨t2, x, y⟩], ds ++ [⟨t, dd, o, m, e⟩], _, _, _, ?_, ?_, ?_, ?_, rfl⟩
    · exact ((R.ch c11).ch c12).snoc (r := ⟨t, dd, o, m, e⟩) (p := p) (p' := ⟨t2, x, y⟩) ⟨c12.tup (c11.tup h9), c12.sqT (c11.sqT f10), N8, gg, m0⟩ (by rw [ld]; exact hp)
        ⟨c12.sqT f11, l11.pos, l11.cop, Nat.lt_of_le_of_lt l11.ln bb.1, Nat.lt_of_le_of_lt l11.ld bb.2⟩ l11
    · rw [List.length_append, ld]
      rfl
    · rw [h12, List.map_append]
      rfl
    · rw [c12.at1 npd.symm (c11.at0 h10), List.map_append]
      rfl
  rintro σ H5 ⟨c5, B5, ps, ds, z3, z4, z5, R, ld, hpa, hdl, rfl⟩
  obtain ⟨p0, hp0⟩ := R.p_at (k := 0) (by omega)
  have p0k := R.hp hp0
  have bz : ∀ {k : Nat}, k ≤ ds.length → 300 + 301 * k ≤ 3000 := fun h => by omega
  have ple : ∀ {k : Nat} {p : PR}, ps[k]? = some p → k ≤ ds.length := fun h => by
    have := (List.getElem?_eq_some_iff.mp h).1
    have := R.len
    omega
  walk_at "go"
  refine w_ixk hpa (k := 0) rfl (pref_at hp0) ?_
  walk_at "go"
  refine w_lenL (.of hdl) ?_
  rw [List.length_map]
  walk_at "go"
  refine w_iR1r (by omega) (by omega) ?_
  refine for_R (n := ds.length) (fun i σ H' => Ch [] H5 H' ∧ ∃ (t : Addr) (p : PR) (z7 : Option V), ps[i]? = some p ∧ Fr K H' t p.n p.d ∧ σ = [some (.ref b), some (.ref pa), some (.ref dl), z3, z4, z5, some (.ref t), z7, none]) ⟨.refl, p0.a, p0, none, hp0, p0k.fr, rfl⟩ ?_ ?_
  · rintro i σ H6 hi ⟨c6, t, p, z7, hp, ft, rfl⟩
    obtain ⟨rr, hr'⟩ := R.d_at hi
    obtain ⟨p', hp'⟩ := R.p_at (k := i + 1) (by omega)
    have R6 := R.ch c6
    have dk := R6.hd hr'
    have pk := R6.hp hp
    have pk' := R6.hp hp'
    have hdl6 := c6.at0 hdl
    have hpa6 := c6.at0 hpa
    have g := dk.g
    walk_at "go"
    refine w_ixk hdl6 (k := i) (by omega) (dref_at hr') ?_
    walk_at "go"
    refine dk.i0 ?_
    walk_at "go"
    refine w_ixk hdl6 (k := i) (by omega) (dref_at hr') ?_
    walk_at "go"
    refine dk.i1 ?_
    walk_at "go"
    refine ⟨t, rr.o, rr.deed, p.n, p.d, rr.m, rr.e, rfl, ft, dk.fr, pk.pos, dk.num.pos, B3 pk.bn (bz (by omega)), B3 pk.bd (bz (by omega)), B3 dk.num.bn (by decide), B3 dk.num.bd (by decide), by omega, by omega, fun h => dk.m0 (by omega), fun t2 x y H7 l7 c7 f7 => ?_⟩
    obtain ⟨e1, e2⟩ := (R.hs hr' hp hp').uniq l7 (duB_ne pk.pos dk.num.pos (fun h => dk.m0 (by omega)) (by omega) (by omega))
    rw [← e1, ← e2] at f7
    have pk' := (R6.ch c7).hp hp'
    have p0k := (R6.ch c7).hp hp0
    walk_at "go"
    refine w_ixk (c7.at0 hpa6) (k := i + 1) (by omega) (pref_at hp') ?_
    walk_at "go"
    refine ⟨t2, p'.a, _, _, rfl, f7, pk'.fr, (show 2 ≤ 1000 by decide), (show 2 ≤ 1000 by decide), ?_⟩
    rw [decide_eq_true rfl]
    walk_at "go"
    rw [if_neg (by decide)]
    walk_at "go"
    refine w_ixk (c7.at0 hpa6) (k := 0) rfl (pref_at hp0) ?_
    walk_at "go"
    refine ⟨t2, p0.a, p'.n, p'.d, p0.n, p0.d, 3000, rfl, f7, p0k.fr, B3 pk'.bn (bz (by omega)), B3 pk'.bd (bz (by omega)), B3 p0k.bn (by decide), B3 p0k.bd (by decide), by decide, ?_⟩
    walk_at "go"
    rw [if_neg (by decide)]
    walk_at "go"
    refine ⟨t2, p'.n, p'.d, 3000, rfl, f7, pk'.pos, B3 pk'.bn (bz (by omega)), B3 pk'.bd (bz (by omega)), by decide, ?_⟩
    walk_at "go"
    rw [if_neg (by decide)]
    exact ⟨c6.trans c7, t2, p', _, hp', f7, rfl⟩
  rintro σ H6 ⟨c6, t, p, z7, hp, ft, rfl⟩
  walk_at "go"
  refine w_lenL (.of (c6.at0 hdl)) ?_
  rw [List.length_map]
  walk_at "go"
  refine w_iR1r (by omega) (by omega) ?_
  refine for_R (n := ds.length) (fun i σ H' => Ch [] H5 H' ∧ ∃ (t : Addr) (p : PR) (z7 z8 : Option V), ps[ds.length - i]? = some p ∧ Fr K H' t p.n p.d ∧ σ = [some (.ref b), some (.ref pa), some (.ref dl), z3, z4, z5, some (.ref t), z7, z8]) ⟨c6, t, p, _, none, hp, ft, rfl⟩ ?_ ?_
  · rintro i σ H6 hi ⟨c6, t, p, z7, z8, hp, ft, rfl⟩
    obtain ⟨j, ej⟩ : ∃ j, j = ds.length - 1 - i := ⟨_, rfl⟩
    rw [show ds.length - i = j + 1 by omega] at hp
    obtain ⟨rr, hr'⟩ := R.d_at (k := j) (by omega)
    obtain ⟨p1, hp1⟩ := R.p_at (k := j) (by omega)
    have hdl6 := c6.at0 hdl
    walk_at "go"
    refine w_lenL (.of hdl6) ?_
    rw [List.length_map]
    walk_at "go"
    have eat : (ds.length : Int) - 1 - (0 + (i : Int)) = (j : Int) := by omega
    rw [eat]
    refine w_newL (show 4 ≤ sizeLine by decide) fun l4 H7 n7 c7 h7 => ?_
    have R7 := (R.ch c6).ch c7
    have dk := R7.hd hr'
    have pk := R7.hp hp
    have pk1 := R7.hp hp1
    have hdl7 := c7.at0 hdl6
    have hpa7 := c7.at0 (c6.at0 hpa)
    have ft := c7.sqT ft
    have g := dk.g
    have gi := inv_g g
    walk_at "go"
    refine w_ixk hdl7 (k := j) rfl (dref_at hr') ?_
    walk_at "go"
    refine dk.i0 ?_
    refine w_ixL (.of h7) gi.2.2.2 ?_
    walk_at "go"
    refine w_ixk hdl7 (k := j) rfl (dref_at hr') ?_
    walk_at "go"
    refine dk.i1 ?_
    walk_at "go"
    refine ⟨t, rr.o, inv rr.deed, p.n, p.d, rr.m, rr.e, rfl, ft, dk.fr, pk.pos, dk.num.pos, B3 pk.bn (bz (by omega)), B3 pk.bd (bz (by omega)), B3 dk.num.bn (by decide), B3 dk.num.bd (by decide), gi.1, gi.2.1, fun h => dk.m0 (by rw [gi.2.2.1 h]; decide), fun t2 x y H8 l8 c8 f8 => ?_⟩
    obtain ⟨e1, e2⟩ := low_undo g pk1.pos pk1.cop dk.num.pos dk.m0 (R.hs hr' hp1 hp) l8
    rw [← e1, ← e2] at f8
    have pk1 := (R7.ch c8).hp hp1
    walk_at "go"
    refine w_ixk (c8.at0 hpa7) (k := j) rfl (pref_at hp1) ?_
    walk_at "go"
    refine ⟨t2, p1.a, _, _, rfl, f8, pk1.fr, (show 2 ≤ 1000 by decide), (show 2 ≤ 1000 by decide), ?_⟩
    rw [decide_eq_true rfl]
    walk_at "go"
    rw [if_neg (by decide)]
    exact ⟨(c6.trans c7).trans c8, t2, p1, _, _, by rw [show ds.length - (i + 1) = j by omega]; exact hp1, f8, rfl⟩
  rintro σ H6 ⟨c6, t, p, z7, z8, hp, ft, rfl⟩
  walk_at "go"
  exact q _ (c5.trans0 c6)
end
end My
namespace My
open PySem PySem.Spec PyProof.Rows L2
def MkV (C : Addr) (sp : Sp) (vs : List V) (H1 : Hp) (Q : VK) : Prop := vs.length ≤ 1000 ∧ ∀ a, H1 a = none → sp (.ref a :: (vs ++ [])) (upd H1 a (exo a C none)) (fun v H2 => v = .non ∧ Q (.ref a) H2) fun _ _ _ => False
theorem w_mkV {C : Addr} {sp : Sp} {ta : TA} {σ : L2.St} {H : Hp} {Q : VK} (h : ta σ H fun vs H1 => MkV C sp vs H1 Q) : tMkV C sp ta σ H Q := h
theorem madeV_ch {H1 H' : Hp} {a d : Addr} {o : HO} (na : H1 a = none) (hd : upd H1 a o d = none) (da : d ≠ a) (hk : ∀ b, b ≠ a → b ≠ d → H' b = upd H1 a o b) : Ch [] H1 H' := fun b ob e => by
  have n1 : b ≠ a := ne_of_none e na
  have hd1 : H1 d = none := by rw [upd_ne da] at hd; exact hd
  have n2 : b ≠ d := ne_of_none e hd1
  left
  rw [hk b n1 n2, upd_ne n1]
  exact e
theorem mkV1_at {K : PySem.W.Frag} {C : Addr} {f : Str} {x : V} {H1 : Hp} {Q : VK} (h : ∀ a H', Ch [] H1 H' → Exf H' a C [(f, x)] → Q (.ref a) H') :
    MkV C (sp_init1 K C f) [x] H1 Q :=
  ⟨(show 1 ≤ 1000 by decide), fun a na => ⟨a, x, rfl, upd_same, fun d H' hd da hk ha hd2 => ⟨rfl, h a H' (madeV_ch na hd da hk) ⟨d, ha, hd2⟩⟩⟩⟩
theorem mkV2_at {K : PySem.W.Frag} {C : Addr} {f g : Str} {x y : V} {H1 : Hp} {Q : VK} (h : ∀ a H', Ch [] H1 H' → Exf H' a C [(g, y), (f, x)] → Q (.ref a) H') :
    MkV C (sp_init2 K C f g) [x, y] H1 Q :=
  ⟨(show 2 ≤ 1000 by decide), fun a na => ⟨a, x, y, rfl, upd_same, fun d H' hd da hk ha hd2 => ⟨rfl, h a H' (madeV_ch na hd da hk) ⟨d, ha, hd2⟩⟩⟩⟩
theorem w_xa {K : PySem.W.Frag} {f : Str} {te : TE} {σ : L2.St} {H : Hp} {Q : VK} (h : te σ H fun x H1 => ∃ (a D : Addr) (fs : List (Str × V)) (v : V), x = .ref a ∧ Exf H1 a D fs ∧ XfC K D ∧ PySem.W.findIn K (.ref D) f = some none ∧ fs.lookup f = some v ∧ Q v H1) : tXa K f te σ H Q := h
/-- [e for x in range(..)], each e an int drawn from the box -/
theorem lc_box {σ : L2.St} {H : Hp} {Q : VK} {te : TE} {vs : List Nat} {n i : Nat} {lo : Int} {b : Addr} (hv : vs = [i]) (hn : n < 100000) (B : RB H b)
    (hs : ∀ k H1, k < n → RB H1 b → ∀ S : VK, (∀ (z : Int) H3, Ch [b] H1 H3 → RB H3 b → S (.int z) H3) → te ((wipe σ [i]).set i (some (.int (lo + (k : Int))))) H1 S)
    (hd : ∀ D H' (ns : List Int), H D = none → Ch [b] H H' → RB H' b → ns.length = n → H' D = some (.lst (ivs ns)) → Q (.ref D) H') : LcG (Itr lo n) (gName i) tYes te vs σ H Q := by
  subst hv
  intro D hD
  have nb : b ≠ D := B.ne hD
  refine lc_it (walk_range (lo := lo) (n := n)) (fun k H' => Ch [b] H H' ∧ RB H' b ∧ ∃ ns : List Int, ns.length = k ∧ H' D = some (.lst (ivs ns))) ⟨(Ch.new hD).of0, B.mono (Ch.new hD), [], rfl, by rw [upd_same]; rfl⟩ (fun _ _ _ _ => trivial) ?_ (fun H' hp => ?_)
  · rintro k x H1 H2 hk ⟨c1, B1, ns, ln, e1⟩ y
    obtain ⟨y1, y2⟩ := y
    subst y1 y2
    refine ⟨wipe1, ?_⟩
    show te _ _ _
    refine hs k H2 hk B1 _ fun z H3 c3 B3 => ?_
    have e3 := c3.at1 nb.symm e1
    refine ⟨_, e3, sz_lt (by rw [List.length_map]; omega), ?_, ?_, ns ++ [z], by rw [List.length_append, ln]; rfl, ?_⟩
    · exact Ch.cut (c1.trans c3) hD (Ch.set e3)
    · exact B3.mono1 nb (Ch.set e3)
    · rw [upd_same, ivs, ivs, List.map_append]
      rfl
  · obtain ⟨c, B', ns, ln, e⟩ := hp
    exact hd D H' ns hD c B' ln e
section
variable {P : Program} {w : World} {K : PySem.W.Frag} {mg : Str → Option Value} {base : Heap}
abbrev EA (as : List Addr) : Sp := sp__law_alone as
abbrev s__law_plain_errors_hold : Stmt := topS 68
theorem sc__law_plain_errors_hold : FnScope [] [] (defScope s__law_plain_errors_hold) := ⟨rfl, rfl, rfl, by decide +kernel, rfl, by decide +kernel, by decide +kernel⟩
def sp__law_plain : Sp := fun vs H Q _ => vs = [] ∧ ∀ H', Ch [] H H' → Q (.bl true) H'
theorem c__law_plain_errors_hold {A_DivisionByZero A_ZeroPolynomial A_HasQuantifier A_NotOneUnknown A_NothingToUndo A_InvalidPoly A_InvalidStretch A_InvalidText A_InvalidUnknown A_NoUnknown A_HasFree A_Reducible A_NoRoot A_InvalidCode A_TooDeep A_TooLarge A_InvalidPiece A_NoPiece A_InvalidSpot A_Vanishes A_NoCell A_InvalidLine A_InvalidSave A_InvalidName A_Missing A_Circular A_NotASentence A_CellspireError : Addr} (ET : ErrT K mg A_CellspireError [A_DivisionByZero, A_ZeroPolynomial, A_HasQuantifier, A_NotOneUnknown, A_NothingToUndo, A_InvalidPoly, A_InvalidStretch, A_InvalidText, A_InvalidUnknown, A_NoUnknown, A_HasFree, A_Reducible, A_NoRoot, A_InvalidCode, A_TooDeep, A_TooLarge, A_InvalidPiece, A_NoPiece, A_InvalidSpot, A_Vanishes, A_NoCell, A_InvalidLine, A_InvalidSave, A_InvalidName, A_Missing, A_Circular, A_NotASentence]) (C__law_alone : Cal P w K mg base 2 "_law_alone" (EA [A_DivisionByZero, A_ZeroPolynomial, A_HasQuantifier, A_NotOneUnknown, A_NothingToUndo, A_InvalidPoly, A_InvalidStretch, A_InvalidText, A_InvalidUnknown, A_NoUnknown, A_HasFree, A_Reducible, A_NoRoot, A_InvalidCode, A_TooDeep, A_TooLarge, A_InvalidPiece, A_NoPiece, A_InvalidSpot, A_Vanishes, A_NoCell, A_InvalidLine, A_InvalidSave, A_InvalidName, A_Missing, A_Circular, A_NotASentence])) (X_DivisionByZero : ExcF K mg "DivisionByZero" A_DivisionByZero) (X_ZeroPolynomial : ExcF K mg "ZeroPolynomial" A_ZeroPolynomial) (X_HasQuantifier : ExcF K mg "HasQuantifier" A_HasQuantifier) (X_NotOneUnknown : ExcF K mg "NotOneUnknown" A_NotOneUnknown) (X_NothingToUndo : ExcF K mg "NothingToUndo" A_NothingToUndo) (X_InvalidPoly : ExcF K mg "InvalidPoly" A_InvalidPoly)
     {f : Addr} {fd : FuncData} (F : DefF K mg "_law_plain_errors_hold" s__law_plain_errors_hold [] f fd) : Cal P w K mg base 3 "_law_plain_errors_hold" sp__law_plain := by
  refine cal_of F sc__law_plain_errors_hold (fun vs H Q E h => by obtain ⟨rfl, _⟩ := h; rfl) (fun cdv A outer s H vs Q E hr h => ?_)
  obtain ⟨rfl, q⟩ := h
  refine ⟨_, (pss_cons (ps_if (PW.pt (pw_or (pt_not (pt_val (pe_cc C__law_alone hr (by decide) (by rfl) (pa_cons (pe_exc0t PySem.F.excBase_ValueError X_DivisionByZero.xin X_DivisionByZero.gl X_DivisionByZero.kp (by rfl)) (pa_cons pe_int pa_nil))))) (pw_or1 (pt_not (pt_val (pe_cc C__law_alone hr (by decide) (by rfl) (pa_cons (pe_exc0t PySem.F.excBase_ValueError X_ZeroPolynomial.xin X_ZeroPolynomial.gl X_ZeroPolynomial.kp (by rfl)) (pa_cons pe_int pa_nil)))))))) (pss_one (ps_ret pe_bl)) pss_nil)
 (pss_cons (ps_if (PW.pt (pw_or (pt_not (pt_val (pe_cc C__law_alone hr (by decide) (by rfl) (pa_cons (pe_exc0t PySem.F.excBase_ValueError X_HasQuantifier.xin X_HasQuantifier.gl X_HasQuantifier.kp (by rfl)) (pa_cons pe_int pa_nil))))) (pw_or1 (pt_not (pt_val (pe_cc C__law_alone hr (by decide) (by rfl) (pa_cons (pe_exc0t PySem.F.excBase_ValueError X_NotOneUnknown.xin X_NotOneUnknown.gl X_NotOneUnknown.kp (by rfl)) (pa_cons pe_int pa_nil)))))))) (pss_one (ps_ret pe_bl)) pss_nil)
 (pss_one (ps_ret (pe_and (pe_cc C__law_alone hr (by decide) (by rfl) (pa_cons (pe_exc0t PySem.F.excBase_ValueError X_NothingToUndo.xin X_NothingToUndo.gl X_NothingToUndo.kp (by rfl)) (pa_cons pe_int pa_nil))) (pe_one (pe_cc C__law_alone hr (by decide) (by rfl) (pa_cons (pe_exc0t PySem.F.excBase_ValueError X_InvalidPoly.xin X_InvalidPoly.gl X_InvalidPoly.kp (by rfl)) (pa_cons pe_int pa_nil))))))))), ?_⟩
  refine w_start (σ := []) rfl ?_
  have c : Ch [] H H := .refl
  walk_at "go"
  refine exv_new fun x H0 c0 X0 => ?_
  walk_at "go"
  refine ⟨x, A_DivisionByZero, 0, _, rfl, rfl, by decide, rfl, X0, fun H' c' => ?_⟩
  have c := (c.trans c0).trans c'
  walk_at "go"
  rw [if_neg (by decide)]
  walk_at "go"
  walk_at "go"
  refine exv_new fun x H1 c1 X1 => ?_
  walk_at "go"
  refine ⟨x, A_ZeroPolynomial, 1, _, rfl, rfl, by decide, rfl, X1, fun H' c' => ?_⟩
  have c := (c.trans c1).trans c'
  walk_at "go"
  rw [if_neg (by decide)]
  walk_at "go"
  walk_at "go"
  refine exv_new fun x H2 c2 X2 => ?_
  walk_at "go"
  refine ⟨x, A_HasQuantifier, 2, _, rfl, rfl, by decide, rfl, X2, fun H' c' => ?_⟩
  have c := (c.trans c2).trans c'
  walk_at "go"
  rw [if_neg (by decide)]
  walk_at "go"
  walk_at "go"
  refine exv_new fun x H3 c3 X3 => ?_
  walk_at "go"
  refine ⟨x, A_NotOneUnknown, 3, _, rfl, rfl, by decide, rfl, X3, fun H' c' => ?_⟩
  have c := (c.trans c3).trans c'
  walk_at "go"
  rw [if_neg (by decide)]
  walk_at "go"
  walk_at "go"
  refine exv_new fun x H4 c4 X4 => ?_
  walk_at "go"
  refine ⟨x, A_NothingToUndo, 4, _, rfl, rfl, by decide, rfl, X4, fun H' c' => ?_⟩
  have c := (c.trans c4).trans c'
  walk_at "go"
  rw [if_pos rfl]
  walk_at "go"
  refine exv_new fun x H5 c5 X5 => ?_
  walk_at "go"
  refine ⟨x, A_InvalidPoly, 5, _, rfl, rfl, by decide, rfl, X5, fun H' c' => ?_⟩
  have c := (c.trans c5).trans c'
  walk_at "go"
  exact q _ c
def sp__law_err : Sp := fun vs H Q _ => ∃ b : Addr, vs = [.ref b] ∧ RB H b ∧ ∀ H', Ch [b] H H' → RB H' b → Q (.bl true) H'
abbrev s__law_numbered_errors_hold : Stmt := topS 71
theorem sc__law_numbered_errors_hold : FnScope ["box", "at", "made", "which", "product", "level"] ["box"] (defScope s__law_numbered_errors_hold) := ⟨rfl, rfl, rfl, by decide +kernel, rfl, by decide +kernel, by decide +kernel⟩
theorem c__law_numbered_errors_hold {A_DivisionByZero A_ZeroPolynomial A_HasQuantifier A_NotOneUnknown A_NothingToUndo A_InvalidPoly A_InvalidStretch A_InvalidText A_InvalidUnknown A_NoUnknown A_HasFree A_Reducible A_NoRoot A_InvalidCode A_TooDeep A_TooLarge A_InvalidPiece A_NoPiece A_InvalidSpot A_Vanishes A_NoCell A_InvalidLine A_InvalidSave A_InvalidName A_Missing A_Circular A_NotASentence A_CellspireError : Addr} (ET : ErrT K mg A_CellspireError [A_DivisionByZero, A_ZeroPolynomial, A_HasQuantifier, A_NotOneUnknown, A_NothingToUndo, A_InvalidPoly, A_InvalidStretch, A_InvalidText, A_InvalidUnknown, A_NoUnknown, A_HasFree, A_Reducible, A_NoRoot, A_InvalidCode, A_TooDeep, A_TooLarge, A_InvalidPiece, A_NoPiece, A_InvalidSpot, A_Vanishes, A_NoCell, A_InvalidLine, A_InvalidSave, A_InvalidName, A_Missing, A_Circular, A_NotASentence]) (C__law_alone : Cal P w K mg base 2 "_law_alone" (EA [A_DivisionByZero, A_ZeroPolynomial, A_HasQuantifier, A_NotOneUnknown, A_NothingToUndo, A_InvalidPoly, A_InvalidStretch, A_InvalidText, A_InvalidUnknown, A_NoUnknown, A_HasFree, A_Reducible, A_NoRoot, A_InvalidCode, A_TooDeep, A_TooLarge, A_InvalidPiece, A_NoPiece, A_InvalidSpot, A_Vanishes, A_NoCell, A_InvalidLine, A_InvalidSave, A_InvalidName, A_Missing, A_Circular, A_NotASentence])) (O_InvalidText : OexD P w K mg base 1 "InvalidText" A_InvalidText (sp_init1 K A_InvalidText "at")) (NA_InvalidText_at : PySem.W.findIn K (.ref A_InvalidText) "at" = some none) (O_NoRoot : OexD P w K mg base 1 "NoRoot" A_NoRoot (sp_init1 K A_NoRoot "which")) (NA_NoRoot_which : PySem.W.findIn K (.ref A_NoRoot) "which" = some none) (O_InvalidCode : OexD P w K mg base 1 "InvalidCode" A_InvalidCode (sp_init1 K A_InvalidCode "at")) (NA_InvalidCode_at : PySem.W.findIn K (.ref A_InvalidCode) "at" = some none) (O_TooDeep : OexD P w K mg base 1 "TooDeep" A_TooDeep (sp_init1 K A_TooDeep "product")) (NA_TooDeep_product : PySem.W.findIn K (.ref A_TooDeep) "product" = some none) (O_InvalidPiece : OexD P w K mg base 1 "InvalidPiece" A_InvalidPiece (sp_init1 K A_InvalidPiece "which")) (NA_InvalidPiece_which : PySem.W.findIn K (.ref A_InvalidPiece) "which" = some none) (O_NoPiece : OexD P w K mg base 1 "NoPiece" A_NoPiece (sp_init1 K A_NoPiece "which")) (NA_NoPiece_which : PySem.W.findIn K (.ref A_NoPiece) "which" = some none) (O_InvalidSpot : OexD P w K mg base 1 "InvalidSpot" A_InvalidSpot (sp_init1 K A_InvalidSpot "level")) (NA_InvalidSpot_level : PySem.W.findIn K (.ref A_InvalidSpot) "level" = some none) (O_Vanishes : OexD P w K mg base 1 "Vanishes" A_Vanishes (sp_init1 K A_Vanishes "level")) (NA_Vanishes_level : PySem.W.findIn K (.ref A_Vanishes) "level" = some none)
    (C__law_take : Cal P w K mg base 1 "_law_take" sp__law_take) (C__law_long : Cal P w K mg base 3 "_law_long" sp__law_long) (C__law_number_is : Cal P w K mg base 2 "_law_number_is" sp__law_number_is) {f : Addr} {fd : FuncData} (F : DefF K mg "_law_numbered_errors_hold" s__law_numbered_errors_hold ["box"] f fd) : Cal P w K mg base 4 "_law_numbered_errors_hold" sp__law_err := by
  refine cal_of F sc__law_numbered_errors_hold (fun vs H Q E h => by obtain ⟨_, rfl, _⟩ := h; rfl) (fun cdv A outer s H vs Q E hr h => ?_)
  obtain ⟨b, rfl, B, q⟩ := h
  refine ⟨_, (pss_cons (ps_set (i := 1) sc__law_numbered_errors_hold.nd rfl (Or.inl rfl) (pe_cc C__law_take hr (by decide) (by rfl) (pa_cons (pv 0) (pa_cons pe_int pa_nil))))
 (pss_cons (ps_set (i := 2) sc__law_numbered_errors_hold.nd rfl (Or.inl rfl) (pe_oxV O_InvalidText hr (by decide) (by rfl) (pa_cons (pv 1) pa_nil)))
 (pss_cons (ps_if (PW.pt (pw_or (pt_not (pt_val (pe_cc C__law_alone hr (by decide) (by rfl) (pa_cons (pv 2) (pa_cons pe_int pa_nil))))) (pw_or1 (pt_not (pt_val (pe_cc C__law_number_is hr (by decide) (by rfl) (pa_cons (pe_xa (K := K) rfl (pv 2)) (pa_cons (pv 1) pa_nil)))))))) (pss_one (ps_ret pe_bl)) pss_nil)
 (pss_cons (ps_set (i := 3) sc__law_numbered_errors_hold.nd rfl (Or.inl rfl) (pe_cc C__law_long hr (by decide) (by rfl) (pa_cons (pv 0) pa_nil)))
 (pss_cons (ps_set (i := 2) sc__law_numbered_errors_hold.nd rfl (Or.inl rfl) (pe_oxV O_NoRoot hr (by decide) (by rfl) (pa_cons (pv 3) pa_nil)))
 (pss_cons (ps_if (PW.pt (pw_or (pt_not (pt_val (pe_cc C__law_alone hr (by decide) (by rfl) (pa_cons (pv 2) (pa_cons pe_int pa_nil))))) (pw_or1 (pt_not (pt_val (pe_cc C__law_number_is hr (by decide) (by rfl) (pa_cons (pe_xa (K := K) rfl (pv 2)) (pa_cons (pv 3) pa_nil)))))))) (pss_one (ps_ret pe_bl)) pss_nil)
 (pss_cons (ps_set (i := 1) sc__law_numbered_errors_hold.nd rfl (Or.inl rfl) (pe_cc C__law_take hr (by decide) (by rfl) (pa_cons (pv 0) (pa_cons pe_int pa_nil))))
 (pss_cons (ps_set (i := 2) sc__law_numbered_errors_hold.nd rfl (Or.inl rfl) (pe_oxV O_InvalidCode hr (by decide) (by rfl) (pa_cons (pv 1) pa_nil)))
 (pss_cons (ps_if (PW.pt (pw_or (pt_not (pt_val (pe_cc C__law_alone hr (by decide) (by rfl) (pa_cons (pv 2) (pa_cons pe_int pa_nil))))) (pw_or1 (pt_not (pt_val (pe_cc C__law_number_is hr (by decide) (by rfl) (pa_cons (pe_xa (K := K) rfl (pv 2)) (pa_cons (pv 1) pa_nil)))))))) (pss_one (ps_ret pe_bl)) pss_nil)
 (pss_cons (ps_set (i := 4) sc__law_numbered_errors_hold.nd rfl (Or.inl rfl) (pe_op op_add pe_int (pe_cc C__law_take hr (by decide) (by rfl) (pa_cons (pv 0) (pa_cons pe_int pa_nil)))))
 (pss_cons (ps_set (i := 2) sc__law_numbered_errors_hold.nd rfl (Or.inl rfl) (pe_oxV O_TooDeep hr (by decide) (by rfl) (pa_cons (pv 4) pa_nil)))
 (pss_cons (ps_if (PW.pt (pw_or (pt_not (pt_val (pe_cc C__law_alone hr (by decide) (by rfl) (pa_cons (pv 2) (pa_cons pe_int pa_nil))))) (pw_or1 (pt_not (pt_val (pe_cc C__law_number_is hr (by decide) (by rfl) (pa_cons (pe_xa (K := K) rfl (pv 2)) (pa_cons (pv 4) pa_nil)))))))) (pss_one (ps_ret pe_bl)) pss_nil)
 (pss_cons (ps_set (i := 3) sc__law_numbered_errors_hold.nd rfl (Or.inl rfl) (pe_cc C__law_take hr (by decide) (by rfl) (pa_cons (pv 0) (pa_cons pe_int pa_nil))))
 (pss_cons (ps_set (i := 2) sc__law_numbered_errors_hold.nd rfl (Or.inl rfl) (pe_oxV O_InvalidPiece hr (by decide) (by rfl) (pa_cons (pv 3) pa_nil)))
 (pss_cons (ps_if (PW.pt (pw_or (pt_not (pt_val (pe_cc C__law_alone hr (by decide) (by rfl) (pa_cons (pv 2) (pa_cons pe_int pa_nil))))) (pw_or1 (pt_not (pt_val (pe_cc C__law_number_is hr (by decide) (by rfl) (pa_cons (pe_xa (K := K) rfl (pv 2)) (pa_cons (pv 3) pa_nil)))))))) (pss_one (ps_ret pe_bl)) pss_nil)
 (pss_cons (ps_set (i := 3) sc__law_numbered_errors_hold.nd rfl (Or.inl rfl) (pe_cc C__law_long hr (by decide) (by rfl) (pa_cons (pv 0) pa_nil)))
 (pss_cons (ps_set (i := 2) sc__law_numbered_errors_hold.nd rfl (Or.inl rfl) (pe_oxV O_NoPiece hr (by decide) (by rfl) (pa_cons (pv 3) pa_nil)))
 (pss_cons (ps_if (PW.pt (pw_or (pt_not (pt_val (pe_cc C__law_alone hr (by decide) (by rfl) (pa_cons (pv 2) (pa_cons pe_int pa_nil))))) (pw_or1 (pt_not (pt_val (pe_cc C__law_number_is hr (by decide) (by rfl) (pa_cons (pe_xa (K := K) rfl (pv 2)) (pa_cons (pv 3) pa_nil)))))))) (pss_one (ps_ret pe_bl)) pss_nil)
 (pss_cons (ps_set (i := 5) sc__law_numbered_errors_hold.nd rfl (Or.inl rfl) (pe_op op_add pe_int (pe_cc C__law_take hr (by decide) (by rfl) (pa_cons (pv 0) (pa_cons pe_int pa_nil)))))
 (pss_cons (ps_set (i := 2) sc__law_numbered_errors_hold.nd rfl (Or.inl rfl) (pe_oxV O_InvalidSpot hr (by decide) (by rfl) (pa_cons (pv 5) pa_nil)))
 (pss_cons (ps_if (PW.pt (pw_or (pt_not (pt_val (pe_cc C__law_alone hr (by decide) (by rfl) (pa_cons (pv 2) (pa_cons pe_int pa_nil))))) (pw_or1 (pt_not (pt_val (pe_cc C__law_number_is hr (by decide) (by rfl) (pa_cons (pe_xa (K := K) rfl (pv 2)) (pa_cons (pv 5) pa_nil)))))))) (pss_one (ps_ret pe_bl)) pss_nil)
 (pss_cons (ps_set (i := 5) sc__law_numbered_errors_hold.nd rfl (Or.inl rfl) (pe_op op_add pe_int (pe_cc C__law_take hr (by decide) (by rfl) (pa_cons (pv 0) (pa_cons pe_int pa_nil)))))
 (pss_cons (ps_set (i := 2) sc__law_numbered_errors_hold.nd rfl (Or.inl rfl) (pe_oxV O_Vanishes hr (by decide) (by rfl) (pa_cons (pv 5) pa_nil)))
 (pss_one (ps_ret (pe_and (pe_cc C__law_alone hr (by decide) (by rfl) (pa_cons (pv 2) (pa_cons pe_int pa_nil))) (pe_one (pe_cc C__law_number_is hr (by decide) (by rfl) (pa_cons (pe_xa (K := K) rfl (pv 2)) (pa_cons (pv 5) pa_nil)))))))))))))))))))))))))))))), ?_⟩
  refine w_start (σ := [some _, none, none, none, none, none]) rfl ?_
  have c : Ch [b] H H := .refl
  walk_at "go"
  refine ⟨b, 801, rfl, B, by decide, by decide +kernel, fun rt0 Ht0 r0t0 r1t0 ct0 B => ?_⟩
  have c := c.trans ct0
  walk_at "go"
  refine w_mkV ?_
  walk_at "go"
  refine mkV1_at fun x He0 ce0 Xe0 => ?_
  walk_at "go"
  refine ⟨x, A_InvalidText, 7, _, rfl, rfl, by decide, rfl, Xe0.v, fun H' c' => ?_⟩
  have c := (c.trans0 ce0).trans0 c'
  have B := (B.mono ce0).mono c'
  walk_at "go"
  rw [if_neg (by decide)]
  walk_at "go"
  refine w_xa ?_
  walk_at "go"
  refine ⟨x, A_InvalidText, _, _, rfl, Xe0.ch c', xf_of (ET.x (i := 7) rfl), NA_InvalidText_at, rfl, ?_⟩
  walk_at "go"
  refine ⟨_, rfl, ?_⟩
  walk_at "go"
  rw [if_neg (by decide)]
  walk_at "go"
  walk_at "go"
  refine ⟨b, rfl, B, fun rt1 Ht1 rbt1 ct1 B => ?_⟩
  have c := c.trans ct1
  walk_at "go"
  refine w_mkV ?_
  walk_at "go"
  refine mkV1_at fun x He1 ce1 Xe1 => ?_
  walk_at "go"
  refine ⟨x, A_NoRoot, 12, _, rfl, rfl, by decide, rfl, Xe1.v, fun H' c' => ?_⟩
  have c := (c.trans0 ce1).trans0 c'
  have B := (B.mono ce1).mono c'
  walk_at "go"
  rw [if_neg (by decide)]
  walk_at "go"
  refine w_xa ?_
  walk_at "go"
  refine ⟨x, A_NoRoot, _, _, rfl, Xe1.ch c', xf_of (ET.x (i := 12) rfl), NA_NoRoot_which, rfl, ?_⟩
  walk_at "go"
  refine ⟨_, rfl, ?_⟩
  walk_at "go"
  rw [if_neg (by decide)]
  walk_at "go"
  walk_at "go"
  refine ⟨b, 12, rfl, B, by decide, by decide +kernel, fun rt2 Ht2 r0t2 r1t2 ct2 B => ?_⟩
  have c := c.trans ct2
  walk_at "go"
  refine w_mkV ?_
  walk_at "go"
  refine mkV1_at fun x He2 ce2 Xe2 => ?_
  walk_at "go"
  refine ⟨x, A_InvalidCode, 13, _, rfl, rfl, by decide, rfl, Xe2.v, fun H' c' => ?_⟩
  have c := (c.trans0 ce2).trans0 c'
  have B := (B.mono ce2).mono c'
  walk_at "go"
  rw [if_neg (by decide)]
  walk_at "go"
  refine w_xa ?_
  walk_at "go"
  refine ⟨x, A_InvalidCode, _, _, rfl, Xe2.ch c', xf_of (ET.x (i := 13) rfl), NA_InvalidCode_at, rfl, ?_⟩
  walk_at "go"
  refine ⟨_, rfl, ?_⟩
  walk_at "go"
  rw [if_neg (by decide)]
  walk_at "go"
  walk_at "go"
  refine ⟨b, 136, rfl, B, by decide, by decide +kernel, fun rt3 Ht3 r0t3 r1t3 ct3 B => ?_⟩
  have c := c.trans ct3
  walk_at "go"
  refine w_mkV ?_
  walk_at "go"
  refine mkV1_at fun x He3 ce3 Xe3 => ?_
  walk_at "go"
  refine ⟨x, A_TooDeep, 14, _, rfl, rfl, by decide, rfl, Xe3.v, fun H' c' => ?_⟩
  have c := (c.trans0 ce3).trans0 c'
  have B := (B.mono ce3).mono c'
  walk_at "go"
  rw [if_neg (by decide)]
  walk_at "go"
  refine w_xa ?_
  walk_at "go"
  refine ⟨x, A_TooDeep, _, _, rfl, Xe3.ch c', xf_of (ET.x (i := 14) rfl), NA_TooDeep_product, rfl, ?_⟩
  walk_at "go"
  refine ⟨_, rfl, ?_⟩
  walk_at "go"
  rw [if_neg (by decide)]
  walk_at "go"
  walk_at "go"
  refine ⟨b, 100, rfl, B, by decide, by decide +kernel, fun rt4 Ht4 r0t4 r1t4 ct4 B => ?_⟩
  have c := c.trans ct4
  walk_at "go"
  refine w_mkV ?_
  walk_at "go"
  refine mkV1_at fun x He4 ce4 Xe4 => ?_
  walk_at "go"
  refine ⟨x, A_InvalidPiece, 16, _, rfl, rfl, by decide, rfl, Xe4.v, fun H' c' => ?_⟩
  have c := (c.trans0 ce4).trans0 c'
  have B := (B.mono ce4).mono c'
  walk_at "go"
  rw [if_neg (by decide)]
  walk_at "go"
  refine w_xa ?_
  walk_at "go"
  refine ⟨x, A_InvalidPiece, _, _, rfl, Xe4.ch c', xf_of (ET.x (i := 16) rfl), NA_InvalidPiece_which, rfl, ?_⟩
  walk_at "go"
  refine ⟨_, rfl, ?_⟩
  walk_at "go"
  rw [if_neg (by decide)]
  walk_at "go"
  walk_at "go"
  refine ⟨b, rfl, B, fun rt5 Ht5 rbt5 ct5 B => ?_⟩
  have c := c.trans ct5
  walk_at "go"
  refine w_mkV ?_
  walk_at "go"
  refine mkV1_at fun x He5 ce5 Xe5 => ?_
  walk_at "go"
  refine ⟨x, A_NoPiece, 17, _, rfl, rfl, by decide, rfl, Xe5.v, fun H' c' => ?_⟩
  have c := (c.trans0 ce5).trans0 c'
  have B := (B.mono ce5).mono c'
  walk_at "go"
  rw [if_neg (by decide)]
  walk_at "go"
  refine w_xa ?_
  walk_at "go"
  refine ⟨x, A_NoPiece, _, _, rfl, Xe5.ch c', xf_of (ET.x (i := 17) rfl), NA_NoPiece_which, rfl, ?_⟩
  walk_at "go"
  refine ⟨_, rfl, ?_⟩
  walk_at "go"
  rw [if_neg (by decide)]
  walk_at "go"
  walk_at "go"
  refine ⟨b, 4, rfl, B, by decide, by decide +kernel, fun rt6 Ht6 r0t6 r1t6 ct6 B => ?_⟩
  have c := c.trans ct6
  walk_at "go"
  refine w_mkV ?_
  walk_at "go"
  refine mkV1_at fun x He6 ce6 Xe6 => ?_
  walk_at "go"
  refine ⟨x, A_InvalidSpot, 18, _, rfl, rfl, by decide, rfl, Xe6.v, fun H' c' => ?_⟩
  have c := (c.trans0 ce6).trans0 c'
  have B := (B.mono ce6).mono c'
  walk_at "go"
  rw [if_neg (by decide)]
  walk_at "go"
  refine w_xa ?_
  walk_at "go"
  refine ⟨x, A_InvalidSpot, _, _, rfl, Xe6.ch c', xf_of (ET.x (i := 18) rfl), NA_InvalidSpot_level, rfl, ?_⟩
  walk_at "go"
  refine ⟨_, rfl, ?_⟩
  walk_at "go"
  rw [if_neg (by decide)]
  walk_at "go"
  walk_at "go"
  refine ⟨b, 3, rfl, B, by decide, by decide +kernel, fun rt7 Ht7 r0t7 r1t7 ct7 B => ?_⟩
  have c := c.trans ct7
  walk_at "go"
  refine w_mkV ?_
  walk_at "go"
  refine mkV1_at fun x He7 ce7 Xe7 => ?_
  walk_at "go"
  refine ⟨x, A_Vanishes, 19, _, rfl, rfl, by decide, rfl, Xe7.v, fun H' c' => ?_⟩
  have c := (c.trans0 ce7).trans0 c'
  have B := (B.mono ce7).mono c'
  walk_at "go"
  rw [if_pos rfl]
  walk_at "go"
  refine w_xa ?_
  walk_at "go"
  refine ⟨x, A_Vanishes, _, _, rfl, Xe7.ch c', xf_of (ET.x (i := 19) rfl), NA_Vanishes_level, rfl, ?_⟩
  walk_at "go"
  refine ⟨_, rfl, ?_⟩
  walk_at "go"
  exact q _ c B
abbrev s__law_lines_hold : Stmt := topS 72
theorem sc__law_lines_hold : FnScope ["box", "line", "made"] ["box"] (defScope s__law_lines_hold) := ⟨rfl, rfl, rfl, by decide +kernel, rfl, by decide +kernel, by decide +kernel⟩
theorem c__law_lines_hold {A_DivisionByZero A_ZeroPolynomial A_HasQuantifier A_NotOneUnknown A_NothingToUndo A_InvalidPoly A_InvalidStretch A_InvalidText A_InvalidUnknown A_NoUnknown A_HasFree A_Reducible A_NoRoot A_InvalidCode A_TooDeep A_TooLarge A_InvalidPiece A_NoPiece A_InvalidSpot A_Vanishes A_NoCell A_InvalidLine A_InvalidSave A_InvalidName A_Missing A_Circular A_NotASentence A_CellspireError : Addr} (ET : ErrT K mg A_CellspireError [A_DivisionByZero, A_ZeroPolynomial, A_HasQuantifier, A_NotOneUnknown, A_NothingToUndo, A_InvalidPoly, A_InvalidStretch, A_InvalidText, A_InvalidUnknown, A_NoUnknown, A_HasFree, A_Reducible, A_NoRoot, A_InvalidCode, A_TooDeep, A_TooLarge, A_InvalidPiece, A_NoPiece, A_InvalidSpot, A_Vanishes, A_NoCell, A_InvalidLine, A_InvalidSave, A_InvalidName, A_Missing, A_Circular, A_NotASentence]) (C__law_alone : Cal P w K mg base 2 "_law_alone" (EA [A_DivisionByZero, A_ZeroPolynomial, A_HasQuantifier, A_NotOneUnknown, A_NothingToUndo, A_InvalidPoly, A_InvalidStretch, A_InvalidText, A_InvalidUnknown, A_NoUnknown, A_HasFree, A_Reducible, A_NoRoot, A_InvalidCode, A_TooDeep, A_TooLarge, A_InvalidPiece, A_NoPiece, A_InvalidSpot, A_Vanishes, A_NoCell, A_InvalidLine, A_InvalidSave, A_InvalidName, A_Missing, A_Circular, A_NotASentence])) (O_InvalidLine : OexD P w K mg base 1 "InvalidLine" A_InvalidLine (sp_init1 K A_InvalidLine "line")) (NA_InvalidLine_line : PySem.W.findIn K (.ref A_InvalidLine) "line" = some none) (O_InvalidSave : OexD P w K mg base 1 "InvalidSave" A_InvalidSave (sp_init1 K A_InvalidSave "line")) (NA_InvalidSave_line : PySem.W.findIn K (.ref A_InvalidSave) "line" = some none)
    (C__law_take : Cal P w K mg base 1 "_law_take" sp__law_take) (C__law_number_is : Cal P w K mg base 2 "_law_number_is" sp__law_number_is) {f : Addr} {fd : FuncData} (F : DefF K mg "_law_lines_hold" s__law_lines_hold ["box"] f fd) : Cal P w K mg base 3 "_law_lines_hold" sp__law_err := by
  refine cal_of F sc__law_lines_hold (fun vs H Q E h => by obtain ⟨_, rfl, _⟩ := h; rfl) (fun cdv A outer s H vs Q E hr h => ?_)
  obtain ⟨b, rfl, B, q⟩ := h
  refine ⟨_, (pss_cons (ps_set (i := 1) sc__law_lines_hold.nd rfl (Or.inl rfl) (pe_op op_add pe_int (pe_cc C__law_take hr (by decide) (by rfl) (pa_cons (pv 0) (pa_cons pe_int pa_nil)))))
 (pss_cons (ps_set (i := 2) sc__law_lines_hold.nd rfl (Or.inl rfl) (pe_oxV O_InvalidLine hr (by decide) (by rfl) (pa_cons (pv 1) pa_nil)))
 (pss_cons (ps_if (PW.pt (pw_or (pt_not (pt_val (pe_cc C__law_alone hr (by decide) (by rfl) (pa_cons (pv 2) (pa_cons pe_int pa_nil))))) (pw_or1 (pt_not (pt_val (pe_cc C__law_number_is hr (by decide) (by rfl) (pa_cons (pe_xa (K := K) rfl (pv 2)) (pa_cons (pv 1) pa_nil)))))))) (pss_one (ps_ret pe_bl)) pss_nil)
 (pss_cons (ps_set (i := 1) sc__law_lines_hold.nd rfl (Or.inl rfl) (pe_op op_add pe_int (pe_cc C__law_take hr (by decide) (by rfl) (pa_cons (pv 0) (pa_cons pe_int pa_nil)))))
 (pss_cons (ps_set (i := 2) sc__law_lines_hold.nd rfl (Or.inl rfl) (pe_oxV O_InvalidSave hr (by decide) (by rfl) (pa_cons (pv 1) pa_nil)))
 (pss_one (ps_ret (pe_and (pe_cc C__law_alone hr (by decide) (by rfl) (pa_cons (pv 2) (pa_cons pe_int pa_nil))) (pe_one (pe_cc C__law_number_is hr (by decide) (by rfl) (pa_cons (pe_xa (K := K) rfl (pv 2)) (pa_cons (pv 1) pa_nil)))))))))))), ?_⟩
  refine w_start (σ := [some _, none, none]) rfl ?_
  have c : Ch [b] H H := .refl
  walk_at "go"
  refine ⟨b, 400, rfl, B, by decide, by decide +kernel, fun rt0 Ht0 r0t0 r1t0 ct0 B => ?_⟩
  have c := c.trans ct0
  walk_at "go"
  refine w_mkV ?_
  walk_at "go"
  refine mkV1_at fun x He0 ce0 Xe0 => ?_
  walk_at "go"
  refine ⟨x, A_InvalidLine, 21, _, rfl, rfl, by decide, rfl, Xe0.v, fun H' c' => ?_⟩
  have c := (c.trans0 ce0).trans0 c'
  have B := (B.mono ce0).mono c'
  walk_at "go"
  rw [if_neg (by decide)]
  walk_at "go"
  refine w_xa ?_
  walk_at "go"
  refine ⟨x, A_InvalidLine, _, _, rfl, Xe0.ch c', xf_of (ET.x (i := 21) rfl), NA_InvalidLine_line, rfl, ?_⟩
  walk_at "go"
  refine ⟨_, rfl, ?_⟩
  walk_at "go"
  rw [if_neg (by decide)]
  walk_at "go"
  walk_at "go"
  refine ⟨b, 400, rfl, B, by decide, by decide +kernel, fun rt1 Ht1 r0t1 r1t1 ct1 B => ?_⟩
  have c := c.trans ct1
  walk_at "go"
  refine w_mkV ?_
  walk_at "go"
  refine mkV1_at fun x He1 ce1 Xe1 => ?_
  walk_at "go"
  refine ⟨x, A_InvalidSave, 22, _, rfl, rfl, by decide, rfl, Xe1.v, fun H' c' => ?_⟩
  have c := (c.trans0 ce1).trans0 c'
  have B := (B.mono ce1).mono c'
  walk_at "go"
  rw [if_pos rfl]
  walk_at "go"
  refine w_xa ?_
  walk_at "go"
  refine ⟨x, A_InvalidSave, _, _, rfl, Xe1.ch c', xf_of (ET.x (i := 22) rfl), NA_InvalidSave_line, rfl, ?_⟩
  walk_at "go"
  refine ⟨_, rfl, ?_⟩
  walk_at "go"
  exact q _ c B
abbrev s__law_word : Stmt := topS 73
theorem sc__law_word : FnScope ["box", "letters", "word", "turn"] ["box"] (defScope s__law_word) := ⟨rfl, rfl, rfl, by decide +kernel, rfl, by decide +kernel, by decide +kernel⟩
theorem chars26 {r : Int} (h0 : 0 ≤ r) (h1 : r < 26) : ∃ c, atI ("abcdefghijklmnopqrstuvwxyz" : Str).cps.toList r = some c := by
  have e : ("abcdefghijklmnopqrstuvwxyz" : Str).cps.toList.length = 26 := by decide +kernel
  exact ⟨_, by rw [show r = ((r.toNat : Nat) : Int) by omega]; exact atI_nat (List.getElem?_eq_getElem (by rw [e]; omega))⟩
theorem xyz3 {r : Int} (h0 : 0 ≤ r) (h1 : r < 3) : ∃ c, atI ("xyz" : Str).cps.toList r = some c := by
  have e : ("xyz" : Str).cps.toList.length = 3 := by decide +kernel
  exact ⟨_, by rw [show r = ((r.toNat : Nat) : Int) by omega]; exact atI_nat (List.getElem?_eq_getElem (by rw [e]; omega))⟩
def sp__law_word : Sp := fun vs H Q _ => ∃ b : Addr, vs = [.ref b] ∧ RB H b ∧ ∀ (x : Str) H', Ch [b] H H' → RB H' b → Q (.str x) H'
theorem c__law_word (T : Txt mg) (C__law_take : Cal P w K mg base 1 "_law_take" sp__law_take) {f : Addr} {fd : FuncData} (F : DefF K mg "_law_word" s__law_word ["box"] f fd) : Cal P w K mg base 2 "_law_word" sp__law_word := by
  refine cal_of F sc__law_word (fun vs H Q E h => by obtain ⟨_, rfl, _⟩ := h; rfl) (fun cdv A outer s H vs Q E hr h => ?_)
  obtain ⟨b, rfl, B, q⟩ := h
  refine ⟨_, (pss_cons (ps_set (i := 1) sc__law_word.nd rfl (Or.inl rfl) pe_str)
 (pss_cons (ps_set (i := 2) sc__law_word.nd rfl (Or.inl rfl) pe_str)
 (pss_cons (ps_for PassesOwn.never rfl (pi_range1 (by rfl) T.z_range (pa_cons (pe_op op_add pe_int (pe_cc C__law_take hr (by decide) (by rfl) (pa_cons (pv 0) (pa_cons pe_int pa_nil)))) pa_nil)) (pg_name (i := 3) sc__law_word.nd rfl (Or.inl rfl)) (pss_one (ps_set (i := 2) sc__law_word.nd rfl (Or.inl rfl) (pe_op op_add_str (pv 2) (pe_ix ix_str (pv 1) (pe_cc C__law_take hr (by decide) (by rfl) (pa_cons (pv 0) (pa_cons pe_int pa_nil))) (fun _ _ => rfl))))))
 (pss_one (ps_ret (pv 2)))))), ?_⟩
  refine w_start (σ := [some _, none, none, none]) rfl ?_
  walk_at "go"
  refine ⟨b, 6, rfl, B, by decide, by decide +kernel, fun r H1 r0 r1 c1 B1 => ?_⟩
  walk_at "go"
  refine w_iR1r (by omega) (by omega) ?_
  refine for_R (n := (1 + r).toNat) (fun i σ H' => Ch [b] H H' ∧ RB H' b ∧ ∃ (x : Str) (z : Option V), x.length = i ∧ σ = [some (.ref b), some (.str "abcdefghijklmnopqrstuvwxyz"), some (.str x), z]) ⟨c1, B1, "", none, by decide +kernel, rfl⟩ ?_ ?_
  · rintro i σ H2 hi ⟨c2, B2, x, z, lx, rfl⟩
    walk_at "go"
    refine ⟨b, 26, rfl, B2, by decide, by decide +kernel, fun r2 H3 s0 s1 c3 B3 => ?_⟩
    obtain ⟨ch, hch⟩ := chars26 s0 s1
    refine ⟨_, r2, ch, rfl, rfl, by decide +kernel, hch, ?_⟩
    refine ⟨_, _, rfl, rfl, ?_, ?_⟩
    · refine sz_le ?_
      have e : (⟨#[ch]⟩ : Str).length = 1 := rfl
      rw [e]
      omega
    · walk_at "go"
      refine ⟨c2.trans c3, B3, _, _, ?_, rfl⟩
      rw [PySem.Str.length_append, lx]
      rfl
  · rintro σ H2 ⟨c2, B2, x, z, lx, rfl⟩
    walk_at "go"
    exact q _ _ c2 B2
theorem strs6 {a0 a1 a2 a3 a4 a5 : Str} {r : Int} (h0 : 0 ≤ r) (h1 : r < 6) : ∃ v, atI [V.str a0, .str a1, .str a2, .str a3, .str a4, .str a5] r = some (.str v) := by
  have h : r = 0 ∨ r = 1 ∨ r = 2 ∨ r = 3 ∨ r = 4 ∨ r = 5 := by omega
  rcases h with h | h | h | h | h | h <;> subst h <;> exact ⟨_, rfl⟩
theorem strs7 {a0 a1 a2 a3 a4 a5 a6 : Str} {r : Int} (h0 : 0 ≤ r) (h1 : r < 7) : ∃ v, atI [V.str a0, .str a1, .str a2, .str a3, .str a4, .str a5, .str a6] r = some (.str v) := by
  have h : r = 0 ∨ r = 1 ∨ r = 2 ∨ r = 3 ∨ r = 4 ∨ r = 5 ∨ r = 6 := by omega
  rcases h with h | h | h | h | h | h | h <;> subst h <;> exact ⟨_, rfl⟩
abbrev s__law_unknown_errors_hold : Stmt := topS 74
theorem sc__law_unknown_errors_hold : FnScope ["box", "word", "made"] ["box"] (defScope s__law_unknown_errors_hold) := ⟨rfl, rfl, rfl, by decide +kernel, rfl, by decide +kernel, by decide +kernel⟩
theorem c__law_unknown_errors_hold {A_DivisionByZero A_ZeroPolynomial A_HasQuantifier A_NotOneUnknown A_NothingToUndo A_InvalidPoly A_InvalidStretch A_InvalidText A_InvalidUnknown A_NoUnknown A_HasFree A_Reducible A_NoRoot A_InvalidCode A_TooDeep A_TooLarge A_InvalidPiece A_NoPiece A_InvalidSpot A_Vanishes A_NoCell A_InvalidLine A_InvalidSave A_InvalidName A_Missing A_Circular A_NotASentence A_CellspireError : Addr} (ET : ErrT K mg A_CellspireError [A_DivisionByZero, A_ZeroPolynomial, A_HasQuantifier, A_NotOneUnknown, A_NothingToUndo, A_InvalidPoly, A_InvalidStretch, A_InvalidText, A_InvalidUnknown, A_NoUnknown, A_HasFree, A_Reducible, A_NoRoot, A_InvalidCode, A_TooDeep, A_TooLarge, A_InvalidPiece, A_NoPiece, A_InvalidSpot, A_Vanishes, A_NoCell, A_InvalidLine, A_InvalidSave, A_InvalidName, A_Missing, A_Circular, A_NotASentence]) (C__law_alone : Cal P w K mg base 2 "_law_alone" (EA [A_DivisionByZero, A_ZeroPolynomial, A_HasQuantifier, A_NotOneUnknown, A_NothingToUndo, A_InvalidPoly, A_InvalidStretch, A_InvalidText, A_InvalidUnknown, A_NoUnknown, A_HasFree, A_Reducible, A_NoRoot, A_InvalidCode, A_TooDeep, A_TooLarge, A_InvalidPiece, A_NoPiece, A_InvalidSpot, A_Vanishes, A_NoCell, A_InvalidLine, A_InvalidSave, A_InvalidName, A_Missing, A_Circular, A_NotASentence])) (O_InvalidUnknown : OexD P w K mg base 1 "InvalidUnknown" A_InvalidUnknown (sp_init1 K A_InvalidUnknown "unknown")) (NA_InvalidUnknown_unknown : PySem.W.findIn K (.ref A_InvalidUnknown) "unknown" = some none) (O_NoUnknown : OexD P w K mg base 1 "NoUnknown" A_NoUnknown (sp_init1 K A_NoUnknown "unknown")) (NA_NoUnknown_unknown : PySem.W.findIn K (.ref A_NoUnknown) "unknown" = some none) (O_HasFree : OexD P w K mg base 1 "HasFree" A_HasFree (sp_init1 K A_HasFree "unknown")) (NA_HasFree_unknown : PySem.W.findIn K (.ref A_HasFree) "unknown" = some none) (O_TooLarge : OexD P w K mg base 1 "TooLarge" A_TooLarge (sp_init1 K A_TooLarge "what")) (NA_TooLarge_what : PySem.W.findIn K (.ref A_TooLarge) "what" = some none)
    (C__law_take : Cal P w K mg base 1 "_law_take" sp__law_take) (C__law_word_is : Cal P w K mg base 1 "_law_word_is" sp__law_word_is) {f : Addr} {fd : FuncData} (F : DefF K mg "_law_unknown_errors_hold" s__law_unknown_errors_hold ["box"] f fd) : Cal P w K mg base 3 "_law_unknown_errors_hold" sp__law_err := by
  refine cal_of F sc__law_unknown_errors_hold (fun vs H Q E h => by obtain ⟨_, rfl, _⟩ := h; rfl) (fun cdv A outer s H vs Q E hr h => ?_)
  obtain ⟨b, rfl, B, q⟩ := h
  refine ⟨_, (pss_cons (ps_set (i := 1) sc__law_unknown_errors_hold.nd rfl (Or.inl rfl) (pe_ix (k_ixL (K := K) rfl) (pe_lst (pa_cons pe_str (pa_cons pe_str (pa_cons pe_str (pa_cons pe_str (pa_cons pe_str (pa_cons pe_str pa_nil))))))) (pe_cc C__law_take hr (by decide) (by rfl) (pa_cons (pv 0) (pa_cons pe_int pa_nil))) (fun _ _ => rfl)))
 (pss_cons (ps_set (i := 2) sc__law_unknown_errors_hold.nd rfl (Or.inl rfl) (pe_oxV O_InvalidUnknown hr (by decide) (by rfl) (pa_cons (pv 1) pa_nil)))
 (pss_cons (ps_if (PW.pt (pw_or (pt_not (pt_val (pe_cc C__law_alone hr (by decide) (by rfl) (pa_cons (pv 2) (pa_cons pe_int pa_nil))))) (pw_or1 (pt_not (pt_val (pe_cc C__law_word_is hr (by decide) (by rfl) (pa_cons (pe_xa (K := K) rfl (pv 2)) (pa_cons (pv 1) pa_nil)))))))) (pss_one (ps_ret pe_bl)) pss_nil)
 (pss_cons (ps_set (i := 1) sc__law_unknown_errors_hold.nd rfl (Or.inl rfl) (pe_ix ix_str pe_str (pe_cc C__law_take hr (by decide) (by rfl) (pa_cons (pv 0) (pa_cons pe_int pa_nil))) (fun _ _ => rfl)))
 (pss_cons (ps_set (i := 2) sc__law_unknown_errors_hold.nd rfl (Or.inl rfl) (pe_oxV O_NoUnknown hr (by decide) (by rfl) (pa_cons (pv 1) pa_nil)))
 (pss_cons (ps_if (PW.pt (pw_or (pt_not (pt_val (pe_cc C__law_alone hr (by decide) (by rfl) (pa_cons (pv 2) (pa_cons pe_int pa_nil))))) (pw_or1 (pt_not (pt_val (pe_cc C__law_word_is hr (by decide) (by rfl) (pa_cons (pe_xa (K := K) rfl (pv 2)) (pa_cons (pv 1) pa_nil)))))))) (pss_one (ps_ret pe_bl)) pss_nil)
 (pss_cons (ps_set (i := 1) sc__law_unknown_errors_hold.nd rfl (Or.inl rfl) (pe_ix ix_str pe_str (pe_cc C__law_take hr (by decide) (by rfl) (pa_cons (pv 0) (pa_cons pe_int pa_nil))) (fun _ _ => rfl)))
 (pss_cons (ps_set (i := 2) sc__law_unknown_errors_hold.nd rfl (Or.inl rfl) (pe_oxV O_HasFree hr (by decide) (by rfl) (pa_cons (pv 1) pa_nil)))
 (pss_cons (ps_if (PW.pt (pw_or (pt_not (pt_val (pe_cc C__law_alone hr (by decide) (by rfl) (pa_cons (pv 2) (pa_cons pe_int pa_nil))))) (pw_or1 (pt_not (pt_val (pe_cc C__law_word_is hr (by decide) (by rfl) (pa_cons (pe_xa (K := K) rfl (pv 2)) (pa_cons (pv 1) pa_nil)))))))) (pss_one (ps_ret pe_bl)) pss_nil)
 (pss_cons (ps_set (i := 1) sc__law_unknown_errors_hold.nd rfl (Or.inl rfl) (pe_ix (k_ixL (K := K) rfl) (pe_lst (pa_cons pe_str (pa_cons pe_str (pa_cons pe_str (pa_cons pe_str (pa_cons pe_str (pa_cons pe_str (pa_cons pe_str pa_nil)))))))) (pe_cc C__law_take hr (by decide) (by rfl) (pa_cons (pv 0) (pa_cons pe_int pa_nil))) (fun _ _ => rfl)))
 (pss_cons (ps_set (i := 2) sc__law_unknown_errors_hold.nd rfl (Or.inl rfl) (pe_oxV O_TooLarge hr (by decide) (by rfl) (pa_cons (pv 1) pa_nil)))
 (pss_one (ps_ret (pe_and (pe_cc C__law_alone hr (by decide) (by rfl) (pa_cons (pv 2) (pa_cons pe_int pa_nil))) (pe_one (pe_cc C__law_word_is hr (by decide) (by rfl) (pa_cons (pe_xa (K := K) rfl (pv 2)) (pa_cons (pv 1) pa_nil)))))))))))))))))), ?_⟩
  refine w_start (σ := [some _, none, none]) rfl ?_
  have c : Ch [b] H H := .refl
  walk_at "go"
  refine w_newL (show 6 ≤ sizeLine by decide) fun l Hw0 nw0 cw0 hw0 => ?_
  have c := c.trans0 cw0
  have nb : l ≠ b := (B.ne nw0).symm
  have B := B.mono cw0
  walk_at "go"
  refine ⟨b, 6, rfl, B, by decide, by decide +kernel, fun rw0 Gw0 r0w0 r1w0 dw0 B => ?_⟩
  have c := c.trans dw0
  obtain ⟨vw0, hvw0⟩ := strs6 r0w0 r1w0
  refine w_ixL (.of (dw0.at1 nb hw0)) hvw0 ?_
  walk_at "go"
  refine w_mkV ?_
  walk_at "go"
  refine mkV1_at fun x He0 ce0 Xe0 => ?_
  walk_at "go"
  refine ⟨x, A_InvalidUnknown, 8, _, rfl, rfl, by decide, rfl, Xe0.v, fun H' c' => ?_⟩
  have c := (c.trans0 ce0).trans0 c'
  have B := (B.mono ce0).mono c'
  walk_at "go"
  rw [if_neg (by decide)]
  walk_at "go"
  refine w_xa ?_
  walk_at "go"
  refine ⟨x, A_InvalidUnknown, _, _, rfl, Xe0.ch c', xf_of (ET.x (i := 8) rfl), NA_InvalidUnknown_unknown, rfl, ?_⟩
  walk_at "go"
  refine ⟨_, rfl, ?_⟩
  walk_at "go"
  rw [if_neg (by decide)]
  walk_at "go"
  walk_at "go"
  refine ⟨b, 3, rfl, B, by decide, by decide +kernel, fun rw1 Gw1 r0w1 r1w1 dw1 B => ?_⟩
  have c := c.trans dw1
  obtain ⟨vw1, hvw1⟩ := xyz3 r0w1 r1w1
  refine ⟨_, rw1, vw1, rfl, rfl, by decide +kernel, hvw1, ?_⟩
  walk_at "go"
  refine w_mkV ?_
  walk_at "go"
  refine mkV1_at fun x He1 ce1 Xe1 => ?_
  walk_at "go"
  refine ⟨x, A_NoUnknown, 9, _, rfl, rfl, by decide, rfl, Xe1.v, fun H' c' => ?_⟩
  have c := (c.trans0 ce1).trans0 c'
  have B := (B.mono ce1).mono c'
  walk_at "go"
  rw [if_neg (by decide)]
  walk_at "go"
  refine w_xa ?_
  walk_at "go"
  refine ⟨x, A_NoUnknown, _, _, rfl, Xe1.ch c', xf_of (ET.x (i := 9) rfl), NA_NoUnknown_unknown, rfl, ?_⟩
  walk_at "go"
  refine ⟨_, rfl, ?_⟩
  walk_at "go"
  rw [if_neg (by decide)]
  walk_at "go"
  walk_at "go"
  refine ⟨b, 3, rfl, B, by decide, by decide +kernel, fun rw2 Gw2 r0w2 r1w2 dw2 B => ?_⟩
  have c := c.trans dw2
  obtain ⟨vw2, hvw2⟩ := xyz3 r0w2 r1w2
  refine ⟨_, rw2, vw2, rfl, rfl, by decide +kernel, hvw2, ?_⟩
  walk_at "go"
  refine w_mkV ?_
  walk_at "go"
  refine mkV1_at fun x He2 ce2 Xe2 => ?_
  walk_at "go"
  refine ⟨x, A_HasFree, 10, _, rfl, rfl, by decide, rfl, Xe2.v, fun H' c' => ?_⟩
  have c := (c.trans0 ce2).trans0 c'
  have B := (B.mono ce2).mono c'
  walk_at "go"
  rw [if_neg (by decide)]
  walk_at "go"
  refine w_xa ?_
  walk_at "go"
  refine ⟨x, A_HasFree, _, _, rfl, Xe2.ch c', xf_of (ET.x (i := 10) rfl), NA_HasFree_unknown, rfl, ?_⟩
  walk_at "go"
  refine ⟨_, rfl, ?_⟩
  walk_at "go"
  rw [if_neg (by decide)]
  walk_at "go"
  walk_at "go"
  refine w_newL (show 7 ≤ sizeLine by decide) fun l Hw3 nw3 cw3 hw3 => ?_
  have c := c.trans0 cw3
  have nb : l ≠ b := (B.ne nw3).symm
  have B := B.mono cw3
  walk_at "go"
  refine ⟨b, 7, rfl, B, by decide, by decide +kernel, fun rw3 Gw3 r0w3 r1w3 dw3 B => ?_⟩
  have c := c.trans dw3
  obtain ⟨vw3, hvw3⟩ := strs7 r0w3 r1w3
  refine w_ixL (.of (dw3.at1 nb hw3)) hvw3 ?_
  walk_at "go"
  refine w_mkV ?_
  walk_at "go"
  refine mkV1_at fun x He3 ce3 Xe3 => ?_
  walk_at "go"
  refine ⟨x, A_TooLarge, 15, _, rfl, rfl, by decide, rfl, Xe3.v, fun H' c' => ?_⟩
  have c := (c.trans0 ce3).trans0 c'
  have B := (B.mono ce3).mono c'
  walk_at "go"
  rw [if_pos rfl]
  walk_at "go"
  refine w_xa ?_
  walk_at "go"
  refine ⟨x, A_TooLarge, _, _, rfl, Xe3.ch c', xf_of (ET.x (i := 15) rfl), NA_TooLarge_what, rfl, ?_⟩
  walk_at "go"
  refine ⟨_, rfl, ?_⟩
  walk_at "go"
  exact q _ c B
abbrev s__law_named_errors_hold : Stmt := topS 75
theorem sc__law_named_errors_hold : FnScope ["box", "word", "made"] ["box"] (defScope s__law_named_errors_hold) := ⟨rfl, rfl, rfl, by decide +kernel, rfl, by decide +kernel, by decide +kernel⟩
theorem c__law_named_errors_hold {A_DivisionByZero A_ZeroPolynomial A_HasQuantifier A_NotOneUnknown A_NothingToUndo A_InvalidPoly A_InvalidStretch A_InvalidText A_InvalidUnknown A_NoUnknown A_HasFree A_Reducible A_NoRoot A_InvalidCode A_TooDeep A_TooLarge A_InvalidPiece A_NoPiece A_InvalidSpot A_Vanishes A_NoCell A_InvalidLine A_InvalidSave A_InvalidName A_Missing A_Circular A_NotASentence A_CellspireError : Addr} (ET : ErrT K mg A_CellspireError [A_DivisionByZero, A_ZeroPolynomial, A_HasQuantifier, A_NotOneUnknown, A_NothingToUndo, A_InvalidPoly, A_InvalidStretch, A_InvalidText, A_InvalidUnknown, A_NoUnknown, A_HasFree, A_Reducible, A_NoRoot, A_InvalidCode, A_TooDeep, A_TooLarge, A_InvalidPiece, A_NoPiece, A_InvalidSpot, A_Vanishes, A_NoCell, A_InvalidLine, A_InvalidSave, A_InvalidName, A_Missing, A_Circular, A_NotASentence]) (C__law_alone : Cal P w K mg base 2 "_law_alone" (EA [A_DivisionByZero, A_ZeroPolynomial, A_HasQuantifier, A_NotOneUnknown, A_NothingToUndo, A_InvalidPoly, A_InvalidStretch, A_InvalidText, A_InvalidUnknown, A_NoUnknown, A_HasFree, A_Reducible, A_NoRoot, A_InvalidCode, A_TooDeep, A_TooLarge, A_InvalidPiece, A_NoPiece, A_InvalidSpot, A_Vanishes, A_NoCell, A_InvalidLine, A_InvalidSave, A_InvalidName, A_Missing, A_Circular, A_NotASentence])) (O_InvalidName : OexD P w K mg base 1 "InvalidName" A_InvalidName (sp_init1 K A_InvalidName "name")) (NA_InvalidName_name : PySem.W.findIn K (.ref A_InvalidName) "name" = some none) (O_Missing : OexD P w K mg base 1 "Missing" A_Missing (sp_init1 K A_Missing "name")) (NA_Missing_name : PySem.W.findIn K (.ref A_Missing) "name" = some none) (O_Circular : OexD P w K mg base 1 "Circular" A_Circular (sp_init1 K A_Circular "name")) (NA_Circular_name : PySem.W.findIn K (.ref A_Circular) "name" = some none) (O_NotASentence : OexD P w K mg base 1 "NotASentence" A_NotASentence (sp_init1 K A_NotASentence "name")) (NA_NotASentence_name : PySem.W.findIn K (.ref A_NotASentence) "name" = some none)
    (C__law_word : Cal P w K mg base 2 "_law_word" sp__law_word) (C__law_word_is : Cal P w K mg base 1 "_law_word_is" sp__law_word_is) {f : Addr} {fd : FuncData} (F : DefF K mg "_law_named_errors_hold" s__law_named_errors_hold ["box"] f fd) : Cal P w K mg base 3 "_law_named_errors_hold" sp__law_err := by
  refine cal_of F sc__law_named_errors_hold (fun vs H Q E h => by obtain ⟨_, rfl, _⟩ := h; rfl) (fun cdv A outer s H vs Q E hr h => ?_)
  obtain ⟨b, rfl, B, q⟩ := h
  refine ⟨_, (pss_cons (ps_set (i := 1) sc__law_named_errors_hold.nd rfl (Or.inl rfl) (pe_cc C__law_word hr (by decide) (by rfl) (pa_cons (pv 0) pa_nil)))
 (pss_cons (ps_set (i := 2) sc__law_named_errors_hold.nd rfl (Or.inl rfl) (pe_oxV O_InvalidName hr (by decide) (by rfl) (pa_cons (pv 1) pa_nil)))
 (pss_cons (ps_if (PW.pt (pw_or (pt_not (pt_val (pe_cc C__law_alone hr (by decide) (by rfl) (pa_cons (pv 2) (pa_cons pe_int pa_nil))))) (pw_or1 (pt_not (pt_val (pe_cc C__law_word_is hr (by decide) (by rfl) (pa_cons (pe_xa (K := K) rfl (pv 2)) (pa_cons (pv 1) pa_nil)))))))) (pss_one (ps_ret pe_bl)) pss_nil)
 (pss_cons (ps_set (i := 1) sc__law_named_errors_hold.nd rfl (Or.inl rfl) (pe_cc C__law_word hr (by decide) (by rfl) (pa_cons (pv 0) pa_nil)))
 (pss_cons (ps_set (i := 2) sc__law_named_errors_hold.nd rfl (Or.inl rfl) (pe_oxV O_Missing hr (by decide) (by rfl) (pa_cons (pv 1) pa_nil)))
 (pss_cons (ps_if (PW.pt (pw_or (pt_not (pt_val (pe_cc C__law_alone hr (by decide) (by rfl) (pa_cons (pv 2) (pa_cons pe_int pa_nil))))) (pw_or1 (pt_not (pt_val (pe_cc C__law_word_is hr (by decide) (by rfl) (pa_cons (pe_xa (K := K) rfl (pv 2)) (pa_cons (pv 1) pa_nil)))))))) (pss_one (ps_ret pe_bl)) pss_nil)
 (pss_cons (ps_set (i := 1) sc__law_named_errors_hold.nd rfl (Or.inl rfl) (pe_cc C__law_word hr (by decide) (by rfl) (pa_cons (pv 0) pa_nil)))
 (pss_cons (ps_set (i := 2) sc__law_named_errors_hold.nd rfl (Or.inl rfl) (pe_oxV O_Circular hr (by decide) (by rfl) (pa_cons (pv 1) pa_nil)))
 (pss_cons (ps_if (PW.pt (pw_or (pt_not (pt_val (pe_cc C__law_alone hr (by decide) (by rfl) (pa_cons (pv 2) (pa_cons pe_int pa_nil))))) (pw_or1 (pt_not (pt_val (pe_cc C__law_word_is hr (by decide) (by rfl) (pa_cons (pe_xa (K := K) rfl (pv 2)) (pa_cons (pv 1) pa_nil)))))))) (pss_one (ps_ret pe_bl)) pss_nil)
 (pss_cons (ps_set (i := 1) sc__law_named_errors_hold.nd rfl (Or.inl rfl) (pe_cc C__law_word hr (by decide) (by rfl) (pa_cons (pv 0) pa_nil)))
 (pss_cons (ps_set (i := 2) sc__law_named_errors_hold.nd rfl (Or.inl rfl) (pe_oxV O_NotASentence hr (by decide) (by rfl) (pa_cons (pv 1) pa_nil)))
 (pss_one (ps_ret (pe_and (pe_cc C__law_alone hr (by decide) (by rfl) (pa_cons (pv 2) (pa_cons pe_int pa_nil))) (pe_one (pe_cc C__law_word_is hr (by decide) (by rfl) (pa_cons (pe_xa (K := K) rfl (pv 2)) (pa_cons (pv 1) pa_nil)))))))))))))))))), ?_⟩
  refine w_start (σ := [some _, none, none]) rfl ?_
  have c : Ch [b] H H := .refl
  walk_at "go"
  refine ⟨b, rfl, B, fun x0 G0 d0 B => ?_⟩
  have c := c.trans d0
  walk_at "go"
  refine w_mkV ?_
  walk_at "go"
  refine mkV1_at fun x He0 ce0 Xe0 => ?_
  walk_at "go"
  refine ⟨x, A_InvalidName, 23, _, rfl, rfl, by decide, rfl, Xe0.v, fun H' c' => ?_⟩
  have c := (c.trans0 ce0).trans0 c'
  have B := (B.mono ce0).mono c'
  walk_at "go"
  rw [if_neg (by decide)]
  walk_at "go"
  refine w_xa ?_
  walk_at "go"
  refine ⟨x, A_InvalidName, _, _, rfl, Xe0.ch c', xf_of (ET.x (i := 23) rfl), NA_InvalidName_name, rfl, ?_⟩
  walk_at "go"
  refine ⟨_, rfl, ?_⟩
  walk_at "go"
  rw [if_neg (by decide)]
  walk_at "go"
  walk_at "go"
  refine ⟨b, rfl, B, fun x1 G1 d1 B => ?_⟩
  have c := c.trans d1
  walk_at "go"
  refine w_mkV ?_
  walk_at "go"
  refine mkV1_at fun x He1 ce1 Xe1 => ?_
  walk_at "go"
  refine ⟨x, A_Missing, 24, _, rfl, rfl, by decide, rfl, Xe1.v, fun H' c' => ?_⟩
  have c := (c.trans0 ce1).trans0 c'
  have B := (B.mono ce1).mono c'
  walk_at "go"
  rw [if_neg (by decide)]
  walk_at "go"
  refine w_xa ?_
  walk_at "go"
  refine ⟨x, A_Missing, _, _, rfl, Xe1.ch c', xf_of (ET.x (i := 24) rfl), NA_Missing_name, rfl, ?_⟩
  walk_at "go"
  refine ⟨_, rfl, ?_⟩
  walk_at "go"
  rw [if_neg (by decide)]
  walk_at "go"
  walk_at "go"
  refine ⟨b, rfl, B, fun x2 G2 d2 B => ?_⟩
  have c := c.trans d2
  walk_at "go"
  refine w_mkV ?_
  walk_at "go"
  refine mkV1_at fun x He2 ce2 Xe2 => ?_
  walk_at "go"
  refine ⟨x, A_Circular, 25, _, rfl, rfl, by decide, rfl, Xe2.v, fun H' c' => ?_⟩
  have c := (c.trans0 ce2).trans0 c'
  have B := (B.mono ce2).mono c'
  walk_at "go"
  rw [if_neg (by decide)]
  walk_at "go"
  refine w_xa ?_
  walk_at "go"
  refine ⟨x, A_Circular, _, _, rfl, Xe2.ch c', xf_of (ET.x (i := 25) rfl), NA_Circular_name, rfl, ?_⟩
  walk_at "go"
  refine ⟨_, rfl, ?_⟩
  walk_at "go"
  rw [if_neg (by decide)]
  walk_at "go"
  walk_at "go"
  refine ⟨b, rfl, B, fun x3 G3 d3 B => ?_⟩
  have c := c.trans d3
  walk_at "go"
  refine w_mkV ?_
  walk_at "go"
  refine mkV1_at fun x He3 ce3 Xe3 => ?_
  walk_at "go"
  refine ⟨x, A_NotASentence, 26, _, rfl, rfl, by decide, rfl, Xe3.v, fun H' c' => ?_⟩
  have c := (c.trans0 ce3).trans0 c'
  have B := (B.mono ce3).mono c'
  walk_at "go"
  rw [if_pos rfl]
  walk_at "go"
  refine w_xa ?_
  walk_at "go"
  refine ⟨x, A_NotASentence, _, _, rfl, Xe3.ch c', xf_of (ET.x (i := 26) rfl), NA_NotASentence_name, rfl, ?_⟩
  walk_at "go"
  refine ⟨_, rfl, ?_⟩
  walk_at "go"
  exact q _ c B
end
end My
namespace My
open PySem PySem.Spec PyProof.Rows L2
section
variable {P : Program} {w : World} {K : PySem.W.Frag} {mg : Str → Option Value} {base : Heap}
abbrev s__law_tuple_errors_hold : Stmt := topS 76
theorem sc__law_tuple_errors_hold : FnScope ["box", "low", "high", "made", "row", "cell", "turn"] ["box"] (defScope s__law_tuple_errors_hold) := ⟨rfl, rfl, rfl, by decide +kernel, rfl, by decide +kernel, by decide +kernel⟩
theorem c__law_tuple_errors_hold {A_DivisionByZero A_ZeroPolynomial A_HasQuantifier A_NotOneUnknown A_NothingToUndo A_InvalidPoly A_InvalidStretch A_InvalidText A_InvalidUnknown A_NoUnknown A_HasFree A_Reducible A_NoRoot A_InvalidCode A_TooDeep A_TooLarge A_InvalidPiece A_NoPiece A_InvalidSpot A_Vanishes A_NoCell A_InvalidLine A_InvalidSave A_InvalidName A_Missing A_Circular A_NotASentence A_CellspireError : Addr} (ET : ErrT K mg A_CellspireError [A_DivisionByZero, A_ZeroPolynomial, A_HasQuantifier, A_NotOneUnknown, A_NothingToUndo, A_InvalidPoly, A_InvalidStretch, A_InvalidText, A_InvalidUnknown, A_NoUnknown, A_HasFree, A_Reducible, A_NoRoot, A_InvalidCode, A_TooDeep, A_TooLarge, A_InvalidPiece, A_NoPiece, A_InvalidSpot, A_Vanishes, A_NoCell, A_InvalidLine, A_InvalidSave, A_InvalidName, A_Missing, A_Circular, A_NotASentence]) (C__law_alone : Cal P w K mg base 2 "_law_alone" (EA [A_DivisionByZero, A_ZeroPolynomial, A_HasQuantifier, A_NotOneUnknown, A_NothingToUndo, A_InvalidPoly, A_InvalidStretch, A_InvalidText, A_InvalidUnknown, A_NoUnknown, A_HasFree, A_Reducible, A_NoRoot, A_InvalidCode, A_TooDeep, A_TooLarge, A_InvalidPiece, A_NoPiece, A_InvalidSpot, A_Vanishes, A_NoCell, A_InvalidLine, A_InvalidSave, A_InvalidName, A_Missing, A_Circular, A_NotASentence])) (O_InvalidStretch : OexD P w K mg base 1 "InvalidStretch" A_InvalidStretch (sp_init2 K A_InvalidStretch "low" "high")) (NA_InvalidStretch_low : PySem.W.findIn K (.ref A_InvalidStretch) "low" = some none) (NA_InvalidStretch_high : PySem.W.findIn K (.ref A_InvalidStretch) "high" = some none) (O_Reducible : OexD P w K mg base 1 "Reducible" A_Reducible (sp_init1 K A_Reducible "row")) (NA_Reducible_row : PySem.W.findIn K (.ref A_Reducible) "row" = some none) (O_NoCell : OexD P w K mg base 1 "NoCell" A_NoCell (sp_init1 K A_NoCell "cell")) (NA_NoCell_cell : PySem.W.findIn K (.ref A_NoCell) "cell" = some none)
    (T : Txt mg) (C__law_take : Cal P w K mg base 1 "_law_take" sp__law_take) (C__law_number : Cal P w K mg base 4 "_law_number" (sp__law_number K)) (C__law_beside : Cal P w K mg base 5 "_law_beside" (sp__law_beside K)) (C__law_same : Cal P w K mg base 2 "_law_same" (sp__law_same K)) {f : Addr} {fd : FuncData} (F : DefF K mg "_law_tuple_errors_hold" s__law_tuple_errors_hold ["box"] f fd) : Cal P w K mg base 6 "_law_tuple_errors_hold" sp__law_err := by
  refine cal_of F sc__law_tuple_errors_hold (fun vs H Q E h => by obtain ⟨_, rfl, _⟩ := h; rfl) (fun cdv A outer s H vs Q E hr h => ?_)
  obtain ⟨b, rfl, B, q⟩ := h
  refine ⟨_, (pss_cons (ps_set (i := 1) sc__law_tuple_errors_hold.nd rfl (Or.inl rfl) (pe_cc C__law_number hr (by decide) (by rfl) (pa_cons (pv 0) pa_nil)))
 (pss_cons (ps_set (i := 2) sc__law_tuple_errors_hold.nd rfl (Or.inl rfl) (pe_cc C__law_beside hr (by decide) (by rfl) (pa_cons (pv 0) (pa_cons (pv 1) pa_nil))))
 (pss_cons (ps_set (i := 3) sc__law_tuple_errors_hold.nd rfl (Or.inl rfl) (pe_oxV O_InvalidStretch hr (by decide) (by rfl) (pa_cons (pv 1) (pa_cons (pv 2) pa_nil))))
 (pss_cons (ps_if (PW.pt (pw_or (pt_not (pt_val (pe_cc C__law_alone hr (by decide) (by rfl) (pa_cons (pv 3) (pa_cons pe_int pa_nil))))) (pw_or (pt_not (pt_val (pe_cc C__law_same hr (by decide) (by rfl) (pa_cons (pe_xa (K := K) rfl (pv 3)) (pa_cons (pv 1) pa_nil))))) (pw_or1 (pt_not (pt_val (pe_cc C__law_same hr (by decide) (by rfl) (pa_cons (pe_xa (K := K) rfl (pv 3)) (pa_cons (pv 2) pa_nil))))))))) (pss_one (ps_ret pe_bl)) pss_nil)
 (pss_cons (ps_set (i := 4) sc__law_tuple_errors_hold.nd rfl (Or.inl rfl) (pe_callTy (k_tuple (K := K) rfl) (by rfl) T.z_tuple (by decide +kernel) (pa_cons (pe_op op_cat (pe_lc (own := [("turn", 6)]) (g := gName 6) rfl sc__law_tuple_errors_hold.nd (pi_range1 (by rfl) T.z_range (pa_cons (pe_cc C__law_take hr (by decide) (by rfl) (pa_cons (pv 0) (pa_cons pe_int pa_nil))) pa_nil)) (blkOk_by (own := [("turn", 6)]) (N := ["box", "low", "high", "made", "row", "cell", "turn"]) (sc := defScope s__law_tuple_errors_hold) (by decide +kernel)) (fun _ _ _ _ _ => pg_name (i := 6) sc__law_tuple_errors_hold.nd rfl (Or.inl rfl)) (fun _ _ _ _ _ => pts_nil) (fun _ _ _ _ _ => (pe_op op_sub (pe_cc C__law_take hr (by decide) (by rfl) (pa_cons (pv 0) (pa_cons pe_int pa_nil))) pe_int))) (pe_lst (pa_cons (pe_op op_add pe_int (pe_cc C__law_take hr (by decide) (by rfl) (pa_cons (pv 0) (pa_cons pe_int pa_nil)))) pa_nil))) pa_nil)))
 (pss_cons (ps_set (i := 3) sc__law_tuple_errors_hold.nd rfl (Or.inl rfl) (pe_oxV O_Reducible hr (by decide) (by rfl) (pa_cons (pv 4) pa_nil)))
 (pss_cons (ps_if (PW.pt (pw_or (pt_not (pt_val (pe_cc C__law_alone hr (by decide) (by rfl) (pa_cons (pv 3) (pa_cons pe_int pa_nil))))) (pw_or1 (pt_not (pt_val (pe_cc C__law_same hr (by decide) (by rfl) (pa_cons (pe_xa (K := K) rfl (pv 3)) (pa_cons (pv 4) pa_nil)))))))) (pss_one (ps_ret pe_bl)) pss_nil)
 (pss_cons (ps_set (i := 5) sc__law_tuple_errors_hold.nd rfl (Or.inl rfl) (pe_callTy (k_tuple (K := K) rfl) (by rfl) T.z_tuple (by decide +kernel) (pa_cons (pe_lc (own := [("turn", 6)]) (g := gName 6) rfl sc__law_tuple_errors_hold.nd (pi_range1 (by rfl) T.z_range (pa_cons (pe_cc C__law_take hr (by decide) (by rfl) (pa_cons (pv 0) (pa_cons pe_int pa_nil))) pa_nil)) (blkOk_by (own := [("turn", 6)]) (N := ["box", "low", "high", "made", "row", "cell", "turn"]) (sc := defScope s__law_tuple_errors_hold) (by decide +kernel)) (fun _ _ _ _ _ => pg_name (i := 6) sc__law_tuple_errors_hold.nd rfl (Or.inl rfl)) (fun _ _ _ _ _ => pts_nil) (fun _ _ _ _ _ => (pe_op op_sub (pe_cc C__law_take hr (by decide) (by rfl) (pa_cons (pv 0) (pa_cons pe_int pa_nil))) pe_int))) pa_nil)))
 (pss_cons (ps_set (i := 3) sc__law_tuple_errors_hold.nd rfl (Or.inl rfl) (pe_oxV O_NoCell hr (by decide) (by rfl) (pa_cons (pv 5) pa_nil)))
 (pss_one (ps_ret (pe_and (pe_cc C__law_alone hr (by decide) (by rfl) (pa_cons (pv 3) (pa_cons pe_int pa_nil))) (pe_one (pe_cc C__law_same hr (by decide) (by rfl) (pa_cons (pe_xa (K := K) rfl (pv 3)) (pa_cons (pv 5) pa_nil)))))))))))))))), ?_⟩
  refine w_start (σ := [some _, none, none, none, none, none, none]) rfl ?_
  have hsame : ∀ {p : List Int} {y : Addr} {Hx : Hp} {Q' : VK}, SqT K Hx y (ivs p) → p.length ≤ 1000 → Q' (.bl true) Hx → sp__law_same K ([.ref y, .ref y] ++ []) Hx Q' E0 := fun {p y Hx Q'} hy hl hq => ⟨y, y, p, p, rfl, hy, hy, hl, hl, by rw [decide_eq_true rfl]; exact hq⟩
  walk_at "go"
  refine ⟨b, rfl, B, fun lo n d H1 N1 c1 B1 f1 => ?_⟩
  walk_at "go"
  refine ⟨b, lo, n, d, rfl, B1, f1, N1, fun hi m e H2 N2 c2 B2 f2 => ?_⟩
  have f1 := c2.sqT f1
  walk_at "go"
  refine w_mkV ?_
  walk_at "go"
  refine mkV2_at fun x H3 c3 X3 => ?_
  walk_at "go"
  refine ⟨x, A_InvalidStretch, 6, _, rfl, rfl, by decide, rfl, X3.v, fun H4 c4 => ?_⟩
  have B4 := (B2.mono c3).mono c4
  have c := ((c1.trans c2).trans0 c3).trans0 c4
  have f1 := c4.sqT (c3.sqT f1)
  have f2 := c4.sqT (c3.sqT f2)
  walk_at "go"
  rw [if_neg (by decide)]
  walk_at "go"
  refine w_xa ?_
  walk_at "go"
  refine ⟨x, A_InvalidStretch, _, _, rfl, X3.ch c4, xf_of (ET.x (i := 6) rfl), NA_InvalidStretch_low, rfl, ?_⟩
  walk_at "go"
  refine hsame f1 (show 2 ≤ 1000 by decide) ?_
  walk_at "go"
  rw [if_neg (by decide)]
  walk_at "go"
  refine w_xa ?_
  walk_at "go"
  refine ⟨x, A_InvalidStretch, _, _, rfl, X3.ch c4, xf_of (ET.x (i := 6) rfl), NA_InvalidStretch_high, rfl, ?_⟩
  walk_at "go"
  refine hsame f2 (show 2 ≤ 1000 by decide) ?_
  walk_at "go"
  rw [if_neg (by decide)]
  walk_at "go"
  refine ⟨b, 5, rfl, B4, by decide, by decide +kernel, fun r H5 r0 r1 c5 B5 => ?_⟩
  have c := c.trans c5
  walk_at "go"
  refine w_iR1r (by omega) (by omega) ?_
  refine lc_box rfl (by omega) B5 (fun k H6 hk B6 S hS => ?_) (fun D H6 ns nD c6 B6 ln h6 => ?_)
  · walk_at "go"
    refine ⟨b, 19, rfl, B6, by decide, by decide +kernel, fun r2 H7 s0 s1 c7 B7 => ?_⟩
    walk_at "go"
    exact hS _ _ c7 B7
  have c := c.trans c6
  have nb : D ≠ b := (B5.ne nD).symm
  walk_at "go"
  refine ⟨b, 9, rfl, B6, by decide, by decide +kernel, fun r2 H7 s0 s1 c7 B7 => ?_⟩
  have c := c.trans c7
  have h7 := c7.at1 nb h6
  walk_at "go"
  refine w_newL (show 1 ≤ sizeLine by decide) fun l H8 n8 c8 h8 => ?_
  have c := c.trans0 c8
  have B8 := B7.mono c8
  walk_at "go"
  refine w_cat (c8.at0 h7) h8 (sz_le (by rw [List.length_map]; simp only [List.length_cons, List.length_nil]; omega)) fun l9 H9 n9 c9 h9 => ?_
  have c := c.trans0 c9
  have B9 := B8.mono c9
  walk_at "go"
  refine w_tupleL (.of h9) fun t H10 n10 c10 h10 => ?_
  have c := c.trans0 c10
  have B10 := B9.mono c10
  have h10 : H10 t = some (.tup (ivs (ns ++ [1 + r2]))) := by
    rw [h10, ivs, ivs, List.map_append]
    rfl
  have l10 : (ns ++ [1 + r2]).length ≤ 1000 := by
    rw [List.length_append, ln]
    simp only [List.length_cons, List.length_nil]
    omega
  walk_at "go"
  refine w_mkV ?_
  walk_at "go"
  refine mkV1_at fun x H11 c11 X11 => ?_
  walk_at "go"
  refine ⟨x, A_Reducible, 11, _, rfl, rfl, by decide, rfl, X11.v, fun H12 c12 => ?_⟩
  have c := (c.trans0 c11).trans0 c12
  have B12 := (B10.mono c11).mono c12
  walk_at "go"
  rw [if_neg (by decide)]
  walk_at "go"
  refine w_xa ?_
  walk_at "go"
  refine ⟨x, A_Reducible, _, _, rfl, X11.ch c12, xf_of (ET.x (i := 11) rfl), NA_Reducible_row, rfl, ?_⟩
  walk_at "go"
  refine hsame (c12.sqT (c11.sqT (.of h10))) l10 ?_
  walk_at "go"
  rw [if_neg (by decide)]
  walk_at "go"
  refine ⟨b, 5, rfl, B12, by decide, by decide +kernel, fun r H13 r0 r1 c13 B13 => ?_⟩
  have c := c.trans c13
  walk_at "go"
  refine w_iR1r (by omega) (by omega) ?_
  refine lc_box rfl (by omega) B13 (fun k H6 hk B6 S hS => ?_) (fun D H14 ns nD c14 B14 ln h14 => ?_)
  · walk_at "go"
    refine ⟨b, 40, rfl, B6, by decide, by decide +kernel, fun r2 H7 s0 s1 c7 B7 => ?_⟩
    walk_at "go"
    exact hS _ _ c7 B7
  have c := c.trans c14
  walk_at "go"
  refine w_tupleL (.of h14) fun t H15 n15 c15 h15 => ?_
  have c := c.trans0 c15
  have B15 := B14.mono c15
  walk_at "go"
  refine w_mkV ?_
  walk_at "go"
  refine mkV1_at fun x H16 c16 X16 => ?_
  walk_at "go"
  refine ⟨x, A_NoCell, 20, _, rfl, rfl, by decide, rfl, X16.v, fun H17 c17 => ?_⟩
  have c := (c.trans0 c16).trans0 c17
  have B17 := (B15.mono c16).mono c17
  walk_at "go"
  rw [if_pos rfl]
  walk_at "go"
  refine w_xa ?_
  walk_at "go"
  refine ⟨x, A_NoCell, _, _, rfl, X16.ch c17, xf_of (ET.x (i := 20) rfl), NA_NoCell_cell, rfl, ?_⟩
  walk_at "go"
  refine hsame (c17.sqT (c16.sqT (.of h15))) (by omega) ?_
  exact q _ c B17
abbrev s__law_errors_hold : Stmt := topS 77
theorem sc__law_errors_hold : FnScope ["box"] ["box"] (defScope s__law_errors_hold) := ⟨rfl, rfl, rfl, by decide +kernel, rfl, by decide +kernel, by decide +kernel⟩
theorem c__law_errors_hold (C__law_plain_errors_hold : Cal P w K mg base 3 "_law_plain_errors_hold" sp__law_plain) (C__law_numbered_errors_hold : Cal P w K mg base 4 "_law_numbered_errors_hold" sp__law_err) (C__law_lines_hold : Cal P w K mg base 3 "_law_lines_hold" sp__law_err) (C__law_unknown_errors_hold : Cal P w K mg base 3 "_law_unknown_errors_hold" sp__law_err)
    (C__law_named_errors_hold : Cal P w K mg base 3 "_law_named_errors_hold" sp__law_err) (C__law_tuple_errors_hold : Cal P w K mg base 6 "_law_tuple_errors_hold" sp__law_err) {f : Addr} {fd : FuncData} (F : DefF K mg "_law_errors_hold" s__law_errors_hold ["box"] f fd) : Cal P w K mg base 7 "_law_errors_hold" sp__law_err := by
  refine cal_of F sc__law_errors_hold (fun vs H Q E h => by obtain ⟨_, rfl, _⟩ := h; rfl) (fun cdv A outer s H vs Q E hr h => ?_)
  obtain ⟨b, rfl, B, q⟩ := h
  refine ⟨_, (pss_cons (ps_if (PW.pt (pw_or (pt_not (pt_val (pe_cc0 C__law_plain_errors_hold hr (by decide) (by rfl)))) (pw_or1 (pt_not (pt_val (pe_cc C__law_numbered_errors_hold hr (by decide) (by rfl) (pa_cons (pv 0) pa_nil))))))) (pss_one (ps_ret pe_bl)) pss_nil)
 (pss_cons (ps_if (PW.pt (pw_or (pt_not (pt_val (pe_cc C__law_lines_hold hr (by decide) (by rfl) (pa_cons (pv 0) pa_nil)))) (pw_or1 (pt_not (pt_val (pe_cc C__law_unknown_errors_hold hr (by decide) (by rfl) (pa_cons (pv 0) pa_nil))))))) (pss_one (ps_ret pe_bl)) pss_nil)
 (pss_one (ps_ret (pe_and (pe_cc C__law_named_errors_hold hr (by decide) (by rfl) (pa_cons (pv 0) pa_nil)) (pe_one (pe_cc C__law_tuple_errors_hold hr (by decide) (by rfl) (pa_cons (pv 0) pa_nil)))))))), ?_⟩
  refine w_start (σ := [some _]) rfl ?_
  walk_at "go"
  refine ⟨rfl, fun H1 c1 => ?_⟩
  have B := B.mono c1
  have c := (Ch.refl (L := [b])).trans0 c1
  walk_at "go"
  rw [if_neg (by decide)]
  walk_at "go"
  refine ⟨b, rfl, B, fun H2 c2 B => ?_⟩
  have c := c.trans c2
  walk_at "go"
  rw [if_neg (by decide)]
  walk_at "go"
  refine ⟨b, rfl, B, fun H3 c3 B => ?_⟩
  have c := c.trans c3
  walk_at "go"
  rw [if_neg (by decide)]
  walk_at "go"
  refine ⟨b, rfl, B, fun H4 c4 B => ?_⟩
  have c := c.trans c4
  walk_at "go"
  rw [if_neg (by decide)]
  walk_at "go"
  refine ⟨b, rfl, B, fun H5 c5 B => ?_⟩
  have c := c.trans c5
  walk_at "go"
  rw [if_pos rfl]
  walk_at "go"
  refine ⟨b, rfl, B, fun H6 c6 B => ?_⟩
  have c := c.trans c6
  exact q _ c B
abbrev s_law : Stmt := topS 78
theorem sc_law : FnScope ["script", "two", "a", "b", "pair", "box", "one"] ["script"] (defScope s_law) := ⟨rfl, rfl, rfl, by decide +kernel, rfl, by decide +kernel, by decide +kernel⟩
def sp_law (K : PySem.W.Frag) : Sp := fun vs H Q _ => ∃ (a : Addr) (ns : List Int), vs = [.ref a] ∧ SqL K H a (ivs ns) ∧ ns.length ≤ 63 ∧ ∀ H', Q (.bl true) H'
theorem Ch.cutL {L M : List Addr} {H H1 H2 : Hp} (c : Ch L H H1) (hn : ∀ l ∈ M, H l = none) (d : Ch M H1 H2) : Ch L H H2 := fun a o e => by
  have ne : a ∉ M := fun m => by rw [hn a m] at e; cases e
  rcases c a o e with h | ⟨m, xs, ys, rfl, h⟩
  · rcases d a o h with h2 | ⟨m2, _⟩
    · exact .inl h2
    · exact absurd m2 ne
  · rcases d a _ h with h2 | ⟨m2, _⟩
    · exact .inr ⟨m, xs, ys, rfl, h2⟩
    · exact absurd m2 ne
theorem c_law (C__law_box : Cal P w K mg base 2 "_law_box" (sp__law_box K)) (C__law_two : Cal P w K mg base 4 "_law_two" (sp__law_two K)) (C__law_bezout_holds : Cal P w K mg base 3 "_law_bezout_holds" sp__law_bezout_holds) (C__law_pair : Cal P w K mg base 4 "_law_pair" (sp__law_two K)) (C__law_fraction_holds : Cal P w K mg base 3 "_law_fraction_holds" sp__law_fraction_holds)
    (C__law_number : Cal P w K mg base 4 "_law_number" (sp__law_number K)) (C__law_beside : Cal P w K mg base 5 "_law_beside" (sp__law_beside K)) (C__law_two_hold : Cal P w K mg base 5 "_law_two_hold" (sp__law_sums_hold K)) (C__law_run_holds : Cal P w K mg base 5 "_law_run_holds" sp__law_run_holds) (C__law_errors_hold : Cal P w K mg base 7 "_law_errors_hold" sp__law_err)
    {f : Addr} {fd : FuncData} (F : DefF K mg "law" s_law ["script"] f fd) : FnOk P w K mg base (L2.CX P w) 8 f fd ["script"] (sp_law K) := by
  refine F.fn.okX sc_law (fun vs H Q E h => by obtain ⟨_, _, rfl, _⟩ := h; rfl) (fun cdv A outer s H vs Q E hr h => ?_)
  obtain ⟨a, ns, rfl, hs, hl, q⟩ := h
  refine ⟨_, (pss_cons (ps_set (i := 1) sc_law.nd rfl (Or.inl rfl) (pe_cc C__law_two hr (by decide) (by rfl) (pa_cons (pe_cc C__law_box hr (by decide) (by rfl) (pa_cons (pv 0) (pa_cons pe_int pa_nil))) pa_nil)))
 (pss_cons (ps_set (i := 2) sc_law.nd rfl (Or.inl rfl) (pe_ix (k_ixT (K := K) rfl) (pv 1) pe_int (fun _ _ => rfl)))
 (pss_cons (ps_set (i := 3) sc_law.nd rfl (Or.inl rfl) (pe_ix (k_ixT (K := K) rfl) (pv 1) pe_int (fun _ _ => rfl)))
 (pss_cons (ps_if (PW.pt (pw_or (pt_not (pt_val (pe_cc C__law_bezout_holds hr (by decide) (by rfl) (pa_cons (pv 2) (pa_cons (pv 3) pa_nil))))) (pw_or1 (pt_not (pt_val (pe_cc C__law_bezout_holds hr (by decide) (by rfl) (pa_cons (pv 3) (pa_cons (pv 2) pa_nil)))))))) (pss_one (ps_ret pe_bl)) pss_nil)
 (pss_cons (ps_if (PW.pt (pw_or (pt_not (pt_val (pe_cc C__law_bezout_holds hr (by decide) (by rfl) (pa_cons (pv 2) (pa_cons (pe_un un_neg (pv 3)) pa_nil))))) (pw_or1 (pt_not (pt_val (pe_cc C__law_bezout_holds hr (by decide) (by rfl) (pa_cons (pe_un un_neg (pv 2)) (pa_cons (pv 3) pa_nil)))))))) (pss_one (ps_ret pe_bl)) pss_nil)
 (pss_cons (ps_set (i := 4) sc_law.nd rfl (Or.inl rfl) (pe_cc C__law_pair hr (by decide) (by rfl) (pa_cons (pe_cc C__law_box hr (by decide) (by rfl) (pa_cons (pv 0) (pa_cons pe_int pa_nil))) pa_nil)))
 (pss_cons (ps_if (pt_not (pt_val (pe_cc C__law_fraction_holds hr (by decide) (by rfl) (pa_cons (pe_ix (k_ixT (K := K) rfl) (pv 4) pe_int (fun _ _ => rfl)) (pa_cons (pe_ix (k_ixT (K := K) rfl) (pv 4) pe_int (fun _ _ => rfl)) pa_nil))))) (pss_one (ps_ret pe_bl)) pss_nil)
 (pss_cons (ps_set (i := 5) sc_law.nd rfl (Or.inl rfl) (pe_cc C__law_box hr (by decide) (by rfl) (pa_cons (pv 0) (pa_cons pe_int pa_nil))))
 (pss_cons (ps_set (i := 6) sc_law.nd rfl (Or.inl rfl) (pe_cc C__law_number hr (by decide) (by rfl) (pa_cons (pv 5) pa_nil)))
 (pss_cons (ps_if (pt_not (pt_val (pe_cc C__law_two_hold hr (by decide) (by rfl) (pa_cons (pv 6) (pa_cons (pe_cc C__law_beside hr (by decide) (by rfl) (pa_cons (pv 5) (pa_cons (pv 6) pa_nil))) pa_nil))))) (pss_one (ps_ret pe_bl)) pss_nil)
 (pss_cons (ps_if (pt_not (pt_val (pe_cc C__law_run_holds hr (by decide) (by rfl) (pa_cons (pe_cc C__law_box hr (by decide) (by rfl) (pa_cons (pv 0) (pa_cons pe_int pa_nil))) pa_nil)))) (pss_one (ps_ret pe_bl)) pss_nil)
 (pss_one (ps_ret (pe_cc C__law_errors_hold hr (by decide) (by rfl) (pa_cons (pe_cc C__law_box hr (by decide) (by rfl) (pa_cons (pv 0) (pa_cons pe_int pa_nil))) pa_nil))))))))))))))), ?_⟩
  refine w_start (σ := [some _, none, none, none, none, none, none]) rfl ?_
  have one : ∀ {b : Addr} {H1 : Hp}, H1 b = none → ∀ l ∈ [b], H1 l = none := fun nb l ml => by rw [List.mem_singleton.mp ml]; exact nb
  walk_at "go"
  refine ⟨a, ns, 0, rfl, hs, by decide, by omega, fun b H1 nb c1 B1 => ?_⟩
  walk_at "go"
  refine ⟨b, rfl, B1, fun t x y H2 bx by' c2 B2 ft => ?_⟩
  have c := c1.cutL (one nb) c2
  walk_at "go"
  refine ⟨x, y, rfl, bx, by', fun H3 c3 => ?_⟩
  have c := c.trans c3
  walk_at "go"
  rw [if_neg (by decide)]
  walk_at "go"
  refine ⟨y, x, rfl, by', bx, fun H4 c4 => ?_⟩
  have c := c.trans c4
  walk_at "go"
  rw [if_neg (by decide)]
  walk_at "go"
  refine ⟨x, -y, rfl, bx, by rw [Int.natAbs_neg]; exact by', fun H5 c5 => ?_⟩
  have c := c.trans c5
  walk_at "go"
  rw [if_neg (by decide)]
  walk_at "go"
  refine ⟨-x, y, rfl, by rw [Int.natAbs_neg]; exact bx, by', fun H6 c6 => ?_⟩
  have c := c.trans c6
  walk_at "go"
  rw [if_neg (by decide)]
  walk_at "go"
  refine ⟨a, ns, 1, rfl, c.sq0 hs, by decide, by omega, fun b7 H7 nb7 c7 B7 => ?_⟩
  walk_at "go"
  refine ⟨b7, rfl, B7, fun t8 x8 y8 H8 bx8 by8 c8 B8 f8 => ?_⟩
  have c := c.trans (c7.cutL (one nb7) c8)
  walk_at "go"
  refine ⟨x8, y8, rfl, by8, fun H9 c9 => ?_⟩
  have c := c.trans c9
  walk_at "go"
  rw [if_neg (by decide)]
  walk_at "go"
  refine ⟨a, ns, 2, rfl, c.sq0 hs, by decide, by omega, fun bb H10 nb10 c10 B10 => ?_⟩
  walk_at "go"
  refine ⟨bb, rfl, B10, fun u n d H11 N11 c11 B11 f11 => ?_⟩
  walk_at "go"
  refine ⟨bb, u, n, d, rfl, B11, f11, N11, fun v m e H12 N12 c12 B12 f12 => ?_⟩
  have c := c.trans (c10.cutL (one nb10) (c11.trans c12))
  walk_at "go"
  refine ⟨u, v, n, d, m, e, rfl, c12.sqT f11, f12, N11.pos, N12.pos, N11.bn, N11.bd, N12.bn, N12.bd, fun H13 c13 => ?_⟩
  have c := c.trans c13
  walk_at "go"
  rw [if_neg (by decide)]
  walk_at "go"
  refine ⟨a, ns, 3, rfl, c.sq0 hs, by decide, by omega, fun b14 H14 nb14 c14 B14 => ?_⟩
  walk_at "go"
  refine ⟨b14, rfl, B14, fun H15 c15 => ?_⟩
  have c := c.trans (c14.cutL (one nb14) c15)
  walk_at "go"
  rw [if_neg (by decide)]
  walk_at "go"
  refine ⟨a, ns, 4, rfl, c.sq0 hs, by decide, by omega, fun b16 H16 nb16 c16 B16 => ?_⟩
  walk_at "go"
  refine ⟨b16, rfl, B16, fun H17 c17 B17 => ?_⟩
  exact q _
end
end My
namespace My
open PySem PySem.Spec PyProof.Rows L2
section
variable {K : PySem.W.Frag} {h : Heap} {mg : Str → Option Value} {x : Str}
theorem defE_of {st : Stmt} {ps : List Str} {dvs : List V} {n2 : Nat} (X : K.In h) (G : h.Ns mainGlobals mg) (g : (He.Fa.glo x).ok K = true) (d0 : dvs ≠ []) (F : ∃ fd, FunD K x x (defArgs st) (defBody st) (defScope st) dvs [] (He.fAd K (x, none)) fd)
    (b : ∀ (T : Addr) (kV doc pm : Value) (an : Option Addr) (cdv ct : Value) (us its : List Value), us.length = ps.length → its.length = dvs.length →
      ∃ k, bindArgs (PySem.W.fnOf x x (defArgs st) (defBody st) (defScope st) (.ref T) kV doc pm an cdv ct) ⟨us, []⟩ = seqItems? (.ref T) >>= k ∧ k (some its.toArray) = pure (ps.zip (us ++ its.drop dvs.length)))
    (e2 : n2 + dvs.length = ps.length)
    (b2 : ∀ (T : Addr) (kV doc pm : Value) (an : Option Addr) (cdv ct : Value) (us its : List Value), us.length = n2 → its.length = dvs.length →
      ∃ k, bindArgs (PySem.W.fnOf x x (defArgs st) (defBody st) (defScope st) (.ref T) kV doc pm an cdv ct) ⟨us, []⟩ = seqItems? (.ref T) >>= k ∧ k (some its.toArray) = pure (ps.zip (us ++ its.drop 0))) : ∃ f fd, DefE K mg x st ps dvs f fd := by
  obtain ⟨fd, F⟩ := F
  refine ⟨_, fd, F, He.glo_ok X G g, ?_, ?_⟩
  · obtain ⟨ds, v, B⟩ := F.binds1 ps.length dvs.length d0 (by rw [Nat.sub_self]; rfl) b
    rw [List.drop_length] at v
    cases v
    exact B
  · obtain ⟨ds, v, B⟩ := F.binds1 n2 0 d0 (by rw [Nat.sub_zero]; exact e2) b2
    rw [List.drop_zero] at v
    exact ⟨ds, v, B⟩
end
section
variable {P : Program} {w : World} {K : PySem.W.Frag} {mg : Str → Option Value} {base : Heap}
abbrev si_InvalidStretch : Stmt := inClass (topS 9) 0
theorem sci_InvalidStretch : FnScope ["self", "low", "high"] ["self", "low", "high"] (defScope si_InvalidStretch) := ⟨rfl, rfl, rfl, by decide +kernel, rfl, by decide +kernel, by decide +kernel⟩
theorem ci_InvalidStretch {C fI : Addr} {fd : FuncData} (T : OexC K C) (n_low : PySem.W.findIn K (.ref C) "low" = some none) (n_high : PySem.W.findIn K (.ref C) "high" = some none) (F : Fun K "__init__" "InvalidStretch.__init__" si_InvalidStretch fI fd) : FnOk P w K mg base (L2.CX P w) 1 fI fd ["self", "low", "high"] (sp_init2 K C "low" "high") := by
  refine F.okX sci_InvalidStretch (fun vs H Q E h => by obtain ⟨_, _, _, rfl, _⟩ := h; rfl) (fun cdv A outer s H vs Q E hr h => ?_)
  obtain ⟨a, v_low, v_high, rfl, ea, qq⟩ := h
  exact ⟨_, (pss_cons (ps_ost (pv 0) (pv 1)) (pss_one (ps_ost (pv 0) (pv 2)))), init2_pure T n_low n_high ea qq⟩
abbrev si_InvalidText : Stmt := inClass (topS 10) 0
theorem sci_InvalidText : FnScope ["self", "at"] ["self", "at"] (defScope si_InvalidText) := ⟨rfl, rfl, rfl, by decide +kernel, rfl, by decide +kernel, by decide +kernel⟩
theorem ci_InvalidText {C fI : Addr} {fd : FuncData} (T : OexC K C) (n_at : PySem.W.findIn K (.ref C) "at" = some none) (F : Fun K "__init__" "InvalidText.__init__" si_InvalidText fI fd) : FnOk P w K mg base (L2.CX P w) 1 fI fd ["self", "at"] (sp_init1 K C "at") := by
  refine F.okX sci_InvalidText (fun vs H Q E h => by obtain ⟨_, _, rfl, _⟩ := h; rfl) (fun cdv A outer s H vs Q E hr h => ?_)
  obtain ⟨a, v_at, rfl, ea, qq⟩ := h
  exact ⟨_, (pss_one (ps_ost (pv 0) (pv 1))), init1_pure T n_at ea qq⟩
abbrev si_InvalidUnknown : Stmt := inClass (topS 11) 0
theorem sci_InvalidUnknown : FnScope ["self", "unknown"] ["self", "unknown"] (defScope si_InvalidUnknown) := ⟨rfl, rfl, rfl, by decide +kernel, rfl, by decide +kernel, by decide +kernel⟩
theorem ci_InvalidUnknown {C fI : Addr} {fd : FuncData} (T : OexC K C) (n_unknown : PySem.W.findIn K (.ref C) "unknown" = some none) (F : Fun K "__init__" "InvalidUnknown.__init__" si_InvalidUnknown fI fd) : FnOk P w K mg base (L2.CX P w) 1 fI fd ["self", "unknown"] (sp_init1 K C "unknown") := by
  refine F.okX sci_InvalidUnknown (fun vs H Q E h => by obtain ⟨_, _, rfl, _⟩ := h; rfl) (fun cdv A outer s H vs Q E hr h => ?_)
  obtain ⟨a, v_unknown, rfl, ea, qq⟩ := h
  exact ⟨_, (pss_one (ps_ost (pv 0) (pv 1))), init1_pure T n_unknown ea qq⟩
abbrev si_NoUnknown : Stmt := inClass (topS 12) 0
theorem sci_NoUnknown : FnScope ["self", "unknown"] ["self", "unknown"] (defScope si_NoUnknown) := ⟨rfl, rfl, rfl, by decide +kernel, rfl, by decide +kernel, by decide +kernel⟩
theorem ci_NoUnknown {C fI : Addr} {fd : FuncData} (T : OexC K C) (n_unknown : PySem.W.findIn K (.ref C) "unknown" = some none) (F : Fun K "__init__" "NoUnknown.__init__" si_NoUnknown fI fd) : FnOk P w K mg base (L2.CX P w) 1 fI fd ["self", "unknown"] (sp_init1 K C "unknown") := by
  refine F.okX sci_NoUnknown (fun vs H Q E h => by obtain ⟨_, _, rfl, _⟩ := h; rfl) (fun cdv A outer s H vs Q E hr h => ?_)
  obtain ⟨a, v_unknown, rfl, ea, qq⟩ := h
  exact ⟨_, (pss_one (ps_ost (pv 0) (pv 1))), init1_pure T n_unknown ea qq⟩
abbrev si_HasFree : Stmt := inClass (topS 13) 0
theorem sci_HasFree : FnScope ["self", "unknown"] ["self", "unknown"] (defScope si_HasFree) := ⟨rfl, rfl, rfl, by decide +kernel, rfl, by decide +kernel, by decide +kernel⟩
theorem ci_HasFree {C fI : Addr} {fd : FuncData} (T : OexC K C) (n_unknown : PySem.W.findIn K (.ref C) "unknown" = some none) (F : Fun K "__init__" "HasFree.__init__" si_HasFree fI fd) : FnOk P w K mg base (L2.CX P w) 1 fI fd ["self", "unknown"] (sp_init1 K C "unknown") := by
  refine F.okX sci_HasFree (fun vs H Q E h => by obtain ⟨_, _, rfl, _⟩ := h; rfl) (fun cdv A outer s H vs Q E hr h => ?_)
  obtain ⟨a, v_unknown, rfl, ea, qq⟩ := h
  exact ⟨_, (pss_one (ps_ost (pv 0) (pv 1))), init1_pure T n_unknown ea qq⟩
abbrev si_Reducible : Stmt := inClass (topS 14) 0
theorem sci_Reducible : FnScope ["self", "row"] ["self", "row"] (defScope si_Reducible) := ⟨rfl, rfl, rfl, by decide +kernel, rfl, by decide +kernel, by decide +kernel⟩
theorem ci_Reducible {C fI : Addr} {fd : FuncData} (T : OexC K C) (n_row : PySem.W.findIn K (.ref C) "row" = some none) (F : Fun K "__init__" "Reducible.__init__" si_Reducible fI fd) : FnOk P w K mg base (L2.CX P w) 1 fI fd ["self", "row"] (sp_init1 K C "row") := by
  refine F.okX sci_Reducible (fun vs H Q E h => by obtain ⟨_, _, rfl, _⟩ := h; rfl) (fun cdv A outer s H vs Q E hr h => ?_)
  obtain ⟨a, v_row, rfl, ea, qq⟩ := h
  exact ⟨_, (pss_one (ps_ost (pv 0) (pv 1))), init1_pure T n_row ea qq⟩
abbrev si_NoRoot : Stmt := inClass (topS 15) 0
theorem sci_NoRoot : FnScope ["self", "which"] ["self", "which"] (defScope si_NoRoot) := ⟨rfl, rfl, rfl, by decide +kernel, rfl, by decide +kernel, by decide +kernel⟩
theorem ci_NoRoot {C fI : Addr} {fd : FuncData} (T : OexC K C) (n_which : PySem.W.findIn K (.ref C) "which" = some none) (F : Fun K "__init__" "NoRoot.__init__" si_NoRoot fI fd) : FnOk P w K mg base (L2.CX P w) 1 fI fd ["self", "which"] (sp_init1 K C "which") := by
  refine F.okX sci_NoRoot (fun vs H Q E h => by obtain ⟨_, _, rfl, _⟩ := h; rfl) (fun cdv A outer s H vs Q E hr h => ?_)
  obtain ⟨a, v_which, rfl, ea, qq⟩ := h
  exact ⟨_, (pss_one (ps_ost (pv 0) (pv 1))), init1_pure T n_which ea qq⟩
abbrev si_InvalidCode : Stmt := inClass (topS 16) 0
theorem sci_InvalidCode : FnScope ["self", "at"] ["self", "at"] (defScope si_InvalidCode) := ⟨rfl, rfl, rfl, by decide +kernel, rfl, by decide +kernel, by decide +kernel⟩
theorem ci_InvalidCode {C fI : Addr} {fd : FuncData} (T : OexC K C) (n_at : PySem.W.findIn K (.ref C) "at" = some none) (F : Fun K "__init__" "InvalidCode.__init__" si_InvalidCode fI fd) : FnOk P w K mg base (L2.CX P w) 1 fI fd ["self", "at"] (sp_init1 K C "at") := by
  refine F.okX sci_InvalidCode (fun vs H Q E h => by obtain ⟨_, _, rfl, _⟩ := h; rfl) (fun cdv A outer s H vs Q E hr h => ?_)
  obtain ⟨a, v_at, rfl, ea, qq⟩ := h
  exact ⟨_, (pss_one (ps_ost (pv 0) (pv 1))), init1_pure T n_at ea qq⟩
abbrev si_TooDeep : Stmt := inClass (topS 17) 0
theorem sci_TooDeep : FnScope ["self", "product"] ["self", "product"] (defScope si_TooDeep) := ⟨rfl, rfl, rfl, by decide +kernel, rfl, by decide +kernel, by decide +kernel⟩
theorem ci_TooDeep {C fI : Addr} {fd : FuncData} (T : OexC K C) (n_product : PySem.W.findIn K (.ref C) "product" = some none) (F : Fun K "__init__" "TooDeep.__init__" si_TooDeep fI fd) : FnOk P w K mg base (L2.CX P w) 1 fI fd ["self", "product"] (sp_init1 K C "product") := by
  refine F.okX sci_TooDeep (fun vs H Q E h => by obtain ⟨_, _, rfl, _⟩ := h; rfl) (fun cdv A outer s H vs Q E hr h => ?_)
  obtain ⟨a, v_product, rfl, ea, qq⟩ := h
  exact ⟨_, (pss_one (ps_ost (pv 0) (pv 1))), init1_pure T n_product ea qq⟩
abbrev si_TooLarge : Stmt := inClass (topS 18) 0
theorem sci_TooLarge : FnScope ["self", "what"] ["self", "what"] (defScope si_TooLarge) := ⟨rfl, rfl, rfl, by decide +kernel, rfl, by decide +kernel, by decide +kernel⟩
theorem ci_TooLarge {C fI : Addr} {fd : FuncData} (T : OexC K C) (n_what : PySem.W.findIn K (.ref C) "what" = some none) (F : Fun K "__init__" "TooLarge.__init__" si_TooLarge fI fd) : FnOk P w K mg base (L2.CX P w) 1 fI fd ["self", "what"] (sp_init1 K C "what") := by
  refine F.okX sci_TooLarge (fun vs H Q E h => by obtain ⟨_, _, rfl, _⟩ := h; rfl) (fun cdv A outer s H vs Q E hr h => ?_)
  obtain ⟨a, v_what, rfl, ea, qq⟩ := h
  exact ⟨_, (pss_one (ps_ost (pv 0) (pv 1))), init1_pure T n_what ea qq⟩
abbrev si_InvalidPiece : Stmt := inClass (topS 19) 0
theorem sci_InvalidPiece : FnScope ["self", "which"] ["self", "which"] (defScope si_InvalidPiece) := ⟨rfl, rfl, rfl, by decide +kernel, rfl, by decide +kernel, by decide +kernel⟩
theorem ci_InvalidPiece {C fI : Addr} {fd : FuncData} (T : OexC K C) (n_which : PySem.W.findIn K (.ref C) "which" = some none) (F : Fun K "__init__" "InvalidPiece.__init__" si_InvalidPiece fI fd) : FnOk P w K mg base (L2.CX P w) 1 fI fd ["self", "which"] (sp_init1 K C "which") := by
  refine F.okX sci_InvalidPiece (fun vs H Q E h => by obtain ⟨_, _, rfl, _⟩ := h; rfl) (fun cdv A outer s H vs Q E hr h => ?_)
  obtain ⟨a, v_which, rfl, ea, qq⟩ := h
  exact ⟨_, (pss_one (ps_ost (pv 0) (pv 1))), init1_pure T n_which ea qq⟩
abbrev si_NoPiece : Stmt := inClass (topS 20) 0
theorem sci_NoPiece : FnScope ["self", "which"] ["self", "which"] (defScope si_NoPiece) := ⟨rfl, rfl, rfl, by decide +kernel, rfl, by decide +kernel, by decide +kernel⟩
theorem ci_NoPiece {C fI : Addr} {fd : FuncData} (T : OexC K C) (n_which : PySem.W.findIn K (.ref C) "which" = some none) (F : Fun K "__init__" "NoPiece.__init__" si_NoPiece fI fd) : FnOk P w K mg base (L2.CX P w) 1 fI fd ["self", "which"] (sp_init1 K C "which") := by
  refine F.okX sci_NoPiece (fun vs H Q E h => by obtain ⟨_, _, rfl, _⟩ := h; rfl) (fun cdv A outer s H vs Q E hr h => ?_)
  obtain ⟨a, v_which, rfl, ea, qq⟩ := h
  exact ⟨_, (pss_one (ps_ost (pv 0) (pv 1))), init1_pure T n_which ea qq⟩
abbrev si_InvalidSpot : Stmt := inClass (topS 21) 0
theorem sci_InvalidSpot : FnScope ["self", "level"] ["self", "level"] (defScope si_InvalidSpot) := ⟨rfl, rfl, rfl, by decide +kernel, rfl, by decide +kernel, by decide +kernel⟩
theorem ci_InvalidSpot {C fI : Addr} {fd : FuncData} (T : OexC K C) (n_level : PySem.W.findIn K (.ref C) "level" = some none) (F : Fun K "__init__" "InvalidSpot.__init__" si_InvalidSpot fI fd) : FnOk P w K mg base (L2.CX P w) 1 fI fd ["self", "level"] (sp_init1 K C "level") := by
  refine F.okX sci_InvalidSpot (fun vs H Q E h => by obtain ⟨_, _, rfl, _⟩ := h; rfl) (fun cdv A outer s H vs Q E hr h => ?_)
  obtain ⟨a, v_level, rfl, ea, qq⟩ := h
  exact ⟨_, (pss_one (ps_ost (pv 0) (pv 1))), init1_pure T n_level ea qq⟩
abbrev si_Vanishes : Stmt := inClass (topS 22) 0
theorem sci_Vanishes : FnScope ["self", "level"] ["self", "level"] (defScope si_Vanishes) := ⟨rfl, rfl, rfl, by decide +kernel, rfl, by decide +kernel, by decide +kernel⟩
theorem ci_Vanishes {C fI : Addr} {fd : FuncData} (T : OexC K C) (n_level : PySem.W.findIn K (.ref C) "level" = some none) (F : Fun K "__init__" "Vanishes.__init__" si_Vanishes fI fd) : FnOk P w K mg base (L2.CX P w) 1 fI fd ["self", "level"] (sp_init1 K C "level") := by
  refine F.okX sci_Vanishes (fun vs H Q E h => by obtain ⟨_, _, rfl, _⟩ := h; rfl) (fun cdv A outer s H vs Q E hr h => ?_)
  obtain ⟨a, v_level, rfl, ea, qq⟩ := h
  exact ⟨_, (pss_one (ps_ost (pv 0) (pv 1))), init1_pure T n_level ea qq⟩
abbrev si_NoCell : Stmt := inClass (topS 23) 0
theorem sci_NoCell : FnScope ["self", "cell"] ["self", "cell"] (defScope si_NoCell) := ⟨rfl, rfl, rfl, by decide +kernel, rfl, by decide +kernel, by decide +kernel⟩
theorem ci_NoCell {C fI : Addr} {fd : FuncData} (T : OexC K C) (n_cell : PySem.W.findIn K (.ref C) "cell" = some none) (F : Fun K "__init__" "NoCell.__init__" si_NoCell fI fd) : FnOk P w K mg base (L2.CX P w) 1 fI fd ["self", "cell"] (sp_init1 K C "cell") := by
  refine F.okX sci_NoCell (fun vs H Q E h => by obtain ⟨_, _, rfl, _⟩ := h; rfl) (fun cdv A outer s H vs Q E hr h => ?_)
  obtain ⟨a, v_cell, rfl, ea, qq⟩ := h
  exact ⟨_, (pss_one (ps_ost (pv 0) (pv 1))), init1_pure T n_cell ea qq⟩
abbrev si_InvalidLine : Stmt := inClass (topS 24) 0
theorem sci_InvalidLine : FnScope ["self", "line"] ["self", "line"] (defScope si_InvalidLine) := ⟨rfl, rfl, rfl, by decide +kernel, rfl, by decide +kernel, by decide +kernel⟩
theorem ci_InvalidLine {C fI : Addr} {fd : FuncData} (T : OexC K C) (n_line : PySem.W.findIn K (.ref C) "line" = some none) (F : Fun K "__init__" "InvalidLine.__init__" si_InvalidLine fI fd) : FnOk P w K mg base (L2.CX P w) 1 fI fd ["self", "line"] (sp_init1 K C "line") := by
  refine F.okX sci_InvalidLine (fun vs H Q E h => by obtain ⟨_, _, rfl, _⟩ := h; rfl) (fun cdv A outer s H vs Q E hr h => ?_)
  obtain ⟨a, v_line, rfl, ea, qq⟩ := h
  exact ⟨_, (pss_one (ps_ost (pv 0) (pv 1))), init1_pure T n_line ea qq⟩
abbrev si_InvalidSave : Stmt := inClass (topS 25) 0
theorem sci_InvalidSave : FnScope ["self", "line"] ["self", "line"] (defScope si_InvalidSave) := ⟨rfl, rfl, rfl, by decide +kernel, rfl, by decide +kernel, by decide +kernel⟩
theorem ci_InvalidSave {C fI : Addr} {fd : FuncData} (T : OexC K C) (n_line : PySem.W.findIn K (.ref C) "line" = some none) (F : Fun K "__init__" "InvalidSave.__init__" si_InvalidSave fI fd) : FnOk P w K mg base (L2.CX P w) 1 fI fd ["self", "line"] (sp_init1 K C "line") := by
  refine F.okX sci_InvalidSave (fun vs H Q E h => by obtain ⟨_, _, rfl, _⟩ := h; rfl) (fun cdv A outer s H vs Q E hr h => ?_)
  obtain ⟨a, v_line, rfl, ea, qq⟩ := h
  exact ⟨_, (pss_one (ps_ost (pv 0) (pv 1))), init1_pure T n_line ea qq⟩
abbrev si_InvalidName : Stmt := inClass (topS 26) 0
theorem sci_InvalidName : FnScope ["self", "name"] ["self", "name"] (defScope si_InvalidName) := ⟨rfl, rfl, rfl, by decide +kernel, rfl, by decide +kernel, by decide +kernel⟩
theorem ci_InvalidName {C fI : Addr} {fd : FuncData} (T : OexC K C) (n_name : PySem.W.findIn K (.ref C) "name" = some none) (F : Fun K "__init__" "InvalidName.__init__" si_InvalidName fI fd) : FnOk P w K mg base (L2.CX P w) 1 fI fd ["self", "name"] (sp_init1 K C "name") := by
  refine F.okX sci_InvalidName (fun vs H Q E h => by obtain ⟨_, _, rfl, _⟩ := h; rfl) (fun cdv A outer s H vs Q E hr h => ?_)
  obtain ⟨a, v_name, rfl, ea, qq⟩ := h
  exact ⟨_, (pss_one (ps_ost (pv 0) (pv 1))), init1_pure T n_name ea qq⟩
abbrev si_Missing : Stmt := inClass (topS 27) 0
theorem sci_Missing : FnScope ["self", "name"] ["self", "name"] (defScope si_Missing) := ⟨rfl, rfl, rfl, by decide +kernel, rfl, by decide +kernel, by decide +kernel⟩
theorem ci_Missing {C fI : Addr} {fd : FuncData} (T : OexC K C) (n_name : PySem.W.findIn K (.ref C) "name" = some none) (F : Fun K "__init__" "Missing.__init__" si_Missing fI fd) : FnOk P w K mg base (L2.CX P w) 1 fI fd ["self", "name"] (sp_init1 K C "name") := by
  refine F.okX sci_Missing (fun vs H Q E h => by obtain ⟨_, _, rfl, _⟩ := h; rfl) (fun cdv A outer s H vs Q E hr h => ?_)
  obtain ⟨a, v_name, rfl, ea, qq⟩ := h
  exact ⟨_, (pss_one (ps_ost (pv 0) (pv 1))), init1_pure T n_name ea qq⟩
abbrev si_Circular : Stmt := inClass (topS 28) 0
theorem sci_Circular : FnScope ["self", "name"] ["self", "name"] (defScope si_Circular) := ⟨rfl, rfl, rfl, by decide +kernel, rfl, by decide +kernel, by decide +kernel⟩
theorem ci_Circular {C fI : Addr} {fd : FuncData} (T : OexC K C) (n_name : PySem.W.findIn K (.ref C) "name" = some none) (F : Fun K "__init__" "Circular.__init__" si_Circular fI fd) : FnOk P w K mg base (L2.CX P w) 1 fI fd ["self", "name"] (sp_init1 K C "name") := by
  refine F.okX sci_Circular (fun vs H Q E h => by obtain ⟨_, _, rfl, _⟩ := h; rfl) (fun cdv A outer s H vs Q E hr h => ?_)
  obtain ⟨a, v_name, rfl, ea, qq⟩ := h
  exact ⟨_, (pss_one (ps_ost (pv 0) (pv 1))), init1_pure T n_name ea qq⟩
abbrev si_NotASentence : Stmt := inClass (topS 29) 0
theorem sci_NotASentence : FnScope ["self", "name"] ["self", "name"] (defScope si_NotASentence) := ⟨rfl, rfl, rfl, by decide +kernel, rfl, by decide +kernel, by decide +kernel⟩
theorem ci_NotASentence {C fI : Addr} {fd : FuncData} (T : OexC K C) (n_name : PySem.W.findIn K (.ref C) "name" = some none) (F : Fun K "__init__" "NotASentence.__init__" si_NotASentence fI fd) : FnOk P w K mg base (L2.CX P w) 1 fI fd ["self", "name"] (sp_init1 K C "name") := by
  refine F.okX sci_NotASentence (fun vs H Q E h => by obtain ⟨_, _, rfl, _⟩ := h; rfl) (fun cdv A outer s H vs Q E hr h => ?_)
  obtain ⟨a, v_name, rfl, ea, qq⟩ := h
  exact ⟨_, (pss_one (ps_ost (pv 0) (pv 1))), init1_pure T n_name ea qq⟩
theorem all_law {A_DivisionByZero A_ZeroPolynomial A_HasQuantifier A_NotOneUnknown A_NothingToUndo A_InvalidPoly A_InvalidStretch A_InvalidText A_InvalidUnknown A_NoUnknown A_HasFree A_Reducible A_NoRoot A_InvalidCode A_TooDeep A_TooLarge A_InvalidPiece A_NoPiece A_InvalidSpot A_Vanishes A_NoCell A_InvalidLine A_InvalidSave A_InvalidName A_Missing A_Circular A_NotASentence A_CellspireError : Addr} (T : Txt mg) (z_str : mg "str" = none) (z_ValueError : mg "ValueError" = none) (m_gcd : mg "gcd" = some (.builtin "math.gcd")) (ET : ErrT K mg A_CellspireError [A_DivisionByZero, A_ZeroPolynomial, A_HasQuantifier, A_NotOneUnknown, A_NothingToUndo, A_InvalidPoly, A_InvalidStretch, A_InvalidText, A_InvalidUnknown, A_NoUnknown, A_HasFree, A_Reducible, A_NoRoot, A_InvalidCode, A_TooDeep, A_TooLarge, A_InvalidPiece, A_NoPiece, A_InvalidSpot, A_Vanishes, A_NoCell, A_InvalidLine, A_InvalidSave, A_InvalidName, A_Missing, A_Circular, A_NotASentence]) (eD : PySem.W.exmOne K (.ref A_DivisionByZero) (.ref A_DivisionByZero) = some true) (X_DivisionByZero : ExcF K mg "DivisionByZero" A_DivisionByZero) (X_ZeroPolynomial : ExcF K mg "ZeroPolynomial" A_ZeroPolynomial) (X_HasQuantifier : ExcF K mg "HasQuantifier" A_HasQuantifier) (X_NotOneUnknown : ExcF K mg "NotOneUnknown" A_NotOneUnknown) (X_NothingToUndo : ExcF K mg "NothingToUndo" A_NothingToUndo) (X_InvalidPoly : ExcF K mg "InvalidPoly" A_InvalidPoly) (OI_InvalidStretch : OwnI K "InvalidStretch.__init__" A_InvalidStretch si_InvalidStretch ["self", "low", "high"]) (NA_InvalidStretch_low : PySem.W.findIn K (.ref A_InvalidStretch) "low" = some none) (NA_InvalidStretch_high : PySem.W.findIn K (.ref A_InvalidStretch) "high" = some none) (OI_InvalidText : OwnI K "InvalidText.__init__" A_InvalidText si_InvalidText ["self", "at"]) (NA_InvalidText_at : PySem.W.findIn K (.ref A_InvalidText) "at" = some none) (OI_InvalidUnknown : OwnI K "InvalidUnknown.__init__" A_InvalidUnknown si_InvalidUnknown ["self", "unknown"]) (NA_InvalidUnknown_unknown : PySem.W.findIn K (.ref A_InvalidUnknown) "unknown" = some none) (OI_NoUnknown : OwnI K "NoUnknown.__init__" A_NoUnknown si_NoUnknown ["self", "unknown"]) (NA_NoUnknown_unknown : PySem.W.findIn K (.ref A_NoUnknown) "unknown" = some none) (OI_HasFree : OwnI K "HasFree.__init__" A_HasFree si_HasFree ["self", "unknown"]) (NA_HasFree_unknown : PySem.W.findIn K (.ref A_HasFree) "unknown" = some none) (OI_Reducible : OwnI K "Reducible.__init__" A_Reducible si_Reducible ["self", "row"]) (NA_Reducible_row : PySem.W.findIn K (.ref A_Reducible) "row" = some none) (OI_NoRoot : OwnI K "NoRoot.__init__" A_NoRoot si_NoRoot ["self", "which"]) (NA_NoRoot_which : PySem.W.findIn K (.ref A_NoRoot) "which" = some none) (OI_InvalidCode : OwnI K "InvalidCode.__init__" A_InvalidCode si_InvalidCode ["self", "at"]) (NA_InvalidCode_at : PySem.W.findIn K (.ref A_InvalidCode) "at" = some none) (OI_TooDeep : OwnI K "TooDeep.__init__" A_TooDeep si_TooDeep ["self", "product"]) (NA_TooDeep_product : PySem.W.findIn K (.ref A_TooDeep) "product" = some none) (OI_TooLarge : OwnI K "TooLarge.__init__" A_TooLarge si_TooLarge ["self", "what"]) (NA_TooLarge_what : PySem.W.findIn K (.ref A_TooLarge) "what" = some none) (OI_InvalidPiece : OwnI K "InvalidPiece.__init__" A_InvalidPiece si_InvalidPiece ["self", "which"]) (NA_InvalidPiece_which : PySem.W.findIn K (.ref A_InvalidPiece) "which" = some none) (OI_NoPiece : OwnI K "NoPiece.__init__" A_NoPiece si_NoPiece ["self", "which"]) (NA_NoPiece_which : PySem.W.findIn K (.ref A_NoPiece) "which" = some none) (OI_InvalidSpot : OwnI K "InvalidSpot.__init__" A_InvalidSpot si_InvalidSpot ["self", "level"]) (NA_InvalidSpot_level : PySem.W.findIn K (.ref A_InvalidSpot) "level" = some none) (OI_Vanishes : OwnI K "Vanishes.__init__" A_Vanishes si_Vanishes ["self", "level"]) (NA_Vanishes_level : PySem.W.findIn K (.ref A_Vanishes) "level" = some none) (OI_NoCell : OwnI K "NoCell.__init__" A_NoCell si_NoCell ["self", "cell"]) (NA_NoCell_cell : PySem.W.findIn K (.ref A_NoCell) "cell" = some none) (OI_InvalidLine : OwnI K "InvalidLine.__init__" A_InvalidLine si_InvalidLine ["self", "line"]) (NA_InvalidLine_line : PySem.W.findIn K (.ref A_InvalidLine) "line" = some none) (OI_InvalidSave : OwnI K "InvalidSave.__init__" A_InvalidSave si_InvalidSave ["self", "line"]) (NA_InvalidSave_line : PySem.W.findIn K (.ref A_InvalidSave) "line" = some none) (OI_InvalidName : OwnI K "InvalidName.__init__" A_InvalidName si_InvalidName ["self", "name"]) (NA_InvalidName_name : PySem.W.findIn K (.ref A_InvalidName) "name" = some none) (OI_Missing : OwnI K "Missing.__init__" A_Missing si_Missing ["self", "name"]) (NA_Missing_name : PySem.W.findIn K (.ref A_Missing) "name" = some none) (OI_Circular : OwnI K "Circular.__init__" A_Circular si_Circular ["self", "name"]) (NA_Circular_name : PySem.W.findIn K (.ref A_Circular) "name" = some none) (OI_NotASentence : OwnI K "NotASentence.__init__" A_NotASentence si_NotASentence ["self", "name"]) (NA_NotASentence_name : PySem.W.findIn K (.ref A_NotASentence) "name" = some none) {f_sign_of : Addr} {fd_sign_of : FuncData} (D_sign_of : DefF K mg "sign_of" s_sign_of ["n"] f_sign_of fd_sign_of) {f_compare : Addr} {fd_compare : FuncData} (D_compare : DefF K mg "compare" s_compare ["a", "b"] f_compare fd_compare) {f_floor : Addr} {fd_floor : FuncData} (D_floor : DefF K mg "floor" s_floor ["a"] f_floor fd_floor) {f__law_is_integer : Addr} {fd__law_is_integer : FuncData} (D__law_is_integer : DefF K mg "_law_is_integer" s__law_is_integer ["told"] f__law_is_integer fd__law_is_integer) {f__law_same : Addr} {fd__law_same : FuncData} (D__law_same : DefF K mg "_law_same" s__law_same ["told", "due"] f__law_same fd__law_same) {f__law_cell : Addr} {fd__law_cell : FuncData} (D__law_cell : DefF K mg "_law_cell" s__law_cell ["script", "k"] f__law_cell fd__law_cell) {f__law_box : Addr} {fd__law_box : FuncData} (D__law_box : DefF K mg "_law_box" s__law_box ["script", "k"] f__law_box fd__law_box) {f__law_take : Addr} {fd__law_take : FuncData} (D__law_take : DefF K mg "_law_take" s__law_take ["box", "many"] f__law_take fd__law_take) {f__law_turned : Addr} {fd__law_turned : FuncData} (D__law_turned : DefF K mg "_law_turned" s__law_turned ["box", "number"] f__law_turned fd__law_turned) {f__law_power : Addr} {fd__law_power : FuncData} (D__law_power : DefF K mg "_law_power" s__law_power ["root", "count"] f__law_power fd__law_power) {f__law_limbs : Addr} {fd__law_limbs : FuncData} (D__law_limbs : DefF K mg "_law_limbs" s__law_limbs ["box", "count"] f__law_limbs fd__law_limbs) {f__law_gcd : Addr} {fd__law_gcd : FuncData} (D__law_gcd : DefF K mg "_law_gcd" s__law_gcd ["one", "two"] f__law_gcd fd__law_gcd) {f__law_lowest : Addr} {fd__law_lowest : FuncData} (D__law_lowest : DefF K mg "_law_lowest" s__law_lowest ["top", "bottom"] f__law_lowest fd__law_lowest) {f__law_long : Addr} {fd__law_long : FuncData} (D__law_long : DefF K mg "_law_long" s__law_long ["box"] f__law_long fd__law_long) {f__law_number : Addr} {fd__law_number : FuncData} (D__law_number : DefF K mg "_law_number" s__law_number ["box"] f__law_number fd__law_number) {f_fraction : Addr} {fd_fraction : FuncData} (D_fraction : DefE K mg "fraction" s_fraction ["n", "d"] [.int 1] f_fraction fd_fraction) {f_plus : Addr} {fd_plus : FuncData} (D_plus : DefF K mg "plus" s_plus ["a", "b"] f_plus fd_plus) {f_minus : Addr} {fd_minus : FuncData} (D_minus : DefF K mg "minus" s_minus ["a", "b"] f_minus fd_minus) {f_times : Addr} {fd_times : FuncData} (D_times : DefF K mg "times" s_times ["a", "b"] f_times fd_times) {f_over : Addr} {fd_over : FuncData} (D_over : DefF K mg "over" s_over ["a", "b"] f_over fd_over) {f_bezout : Addr} {fd_bezout : FuncData} (D_bezout : DefF K mg "bezout" s_bezout ["a", "b"] f_bezout fd_bezout) {f__law_bezout_holds : Addr} {fd__law_bezout_holds : FuncData} (D__law_bezout_holds : DefF K mg "_law_bezout_holds" s__law_bezout_holds ["a", "b"] f__law_bezout_holds fd__law_bezout_holds) {f__law_two : Addr} {fd__law_two : FuncData} (D__law_two : DefF K mg "_law_two" s__law_two ["box"] f__law_two fd__law_two) {f__law_pair : Addr} {fd__law_pair : FuncData} (D__law_pair : DefF K mg "_law_pair" s__law_pair ["box"] f__law_pair fd__law_pair) {f__law_order_holds : Addr} {fd__law_order_holds : FuncData} (D__law_order_holds : DefF K mg "_law_order_holds" s__law_order_holds ["a", "b"] f__law_order_holds fd__law_order_holds) {f__law_floor_holds : Addr} {fd__law_floor_holds : FuncData} (D__law_floor_holds : DefF K mg "_law_floor_holds" s__law_floor_holds ["a"] f__law_floor_holds fd__law_floor_holds) {f__law_due : Addr} {fd__law_due : FuncData} (D__law_due : DefF K mg "_law_due" s__law_due ["deed", "a", "b"] f__law_due fd__law_due) {f__law_done : Addr} {fd__law_done : FuncData} (D__law_done : DefF K mg "_law_done" s__law_done ["deed", "a", "b"] f__law_done fd__law_done) {f__law_number_is : Addr} {fd__law_number_is : FuncData} (D__law_number_is : DefF K mg "_law_number_is" s__law_number_is ["told", "due"] f__law_number_is fd__law_number_is) {f__law_kinds : Addr} {fd__law_kinds : FuncData} (D__law_kinds : DefF K mg "_law_kinds" s__law_kinds ["failure"] f__law_kinds fd__law_kinds) {f__law_alone : Addr} {fd__law_alone : FuncData} (D__law_alone : DefF K mg "_law_alone" s__law_alone ["failure", "at"] f__law_alone fd__law_alone) {f__law_word_is : Addr} {fd__law_word_is : FuncData} (D__law_word_is : DefF K mg "_law_word_is" s__law_word_is ["told", "due"] f__law_word_is fd__law_word_is) {f__law_fraction_holds : Addr} {fd__law_fraction_holds : FuncData} (D__law_fraction_holds : DefF K mg "_law_fraction_holds" s__law_fraction_holds ["n", "d"] f__law_fraction_holds fd__law_fraction_holds) {f__law_over_refused : Addr} {fd__law_over_refused : FuncData} (D__law_over_refused : DefF K mg "_law_over_refused" s__law_over_refused ["a", "b"] f__law_over_refused fd__law_over_refused) {f__law_sums_hold : Addr} {fd__law_sums_hold : FuncData} (D__law_sums_hold : DefF K mg "_law_sums_hold" s__law_sums_hold ["a", "b"] f__law_sums_hold fd__law_sums_hold) {f__law_two_hold : Addr} {fd__law_two_hold : FuncData} (D__law_two_hold : DefF K mg "_law_two_hold" s__law_two_hold ["a", "b"] f__law_two_hold fd__law_two_hold) {f__law_beside : Addr} {fd__law_beside : FuncData} (D__law_beside : DefF K mg "_law_beside" s__law_beside ["box", "a"] f__law_beside fd__law_beside) {f__law_run_holds : Addr} {fd__law_run_holds : FuncData} (D__law_run_holds : DefF K mg "_law_run_holds" s__law_run_holds ["box"] f__law_run_holds fd__law_run_holds) {f__law_plain_errors_hold : Addr} {fd__law_plain_errors_hold : FuncData} (D__law_plain_errors_hold : DefF K mg "_law_plain_errors_hold" s__law_plain_errors_hold [] f__law_plain_errors_hold fd__law_plain_errors_hold) {f__law_numbered_errors_hold : Addr} {fd__law_numbered_errors_hold : FuncData} (D__law_numbered_errors_hold : DefF K mg "_law_numbered_errors_hold" s__law_numbered_errors_hold ["box"] f__law_numbered_errors_hold fd__law_numbered_errors_hold) {f__law_lines_hold : Addr} {fd__law_lines_hold : FuncData} (D__law_lines_hold : DefF K mg "_law_lines_hold" s__law_lines_hold ["box"] f__law_lines_hold fd__law_lines_hold) {f__law_word : Addr} {fd__law_word : FuncData} (D__law_word : DefF K mg "_law_word" s__law_word ["box"] f__law_word fd__law_word) {f__law_unknown_errors_hold : Addr} {fd__law_unknown_errors_hold : FuncData} (D__law_unknown_errors_hold : DefF K mg "_law_unknown_errors_hold" s__law_unknown_errors_hold ["box"] f__law_unknown_errors_hold fd__law_unknown_errors_hold) {f__law_named_errors_hold : Addr} {fd__law_named_errors_hold : FuncData} (D__law_named_errors_hold : DefF K mg "_law_named_errors_hold" s__law_named_errors_hold ["box"] f__law_named_errors_hold fd__law_named_errors_hold) {f__law_tuple_errors_hold : Addr} {fd__law_tuple_errors_hold : FuncData} (D__law_tuple_errors_hold : DefF K mg "_law_tuple_errors_hold" s__law_tuple_errors_hold ["box"] f__law_tuple_errors_hold fd__law_tuple_errors_hold) {f__law_errors_hold : Addr} {fd__law_errors_hold : FuncData} (D__law_errors_hold : DefF K mg "_law_errors_hold" s__law_errors_hold ["box"] f__law_errors_hold fd__law_errors_hold) {f_law : Addr} {fd_law : FuncData} (D_law : DefF K mg "law" s_law ["script"] f_law fd_law) : FnOk P w K mg base (L2.CX P w) 8 f_law fd_law ["script"] (sp_law K) := by
  have G_DivisionByZero : mg "DivisionByZero" = some (.ref A_DivisionByZero) := ET.g (i := 0) rfl rfl
  have G_ZeroPolynomial : mg "ZeroPolynomial" = some (.ref A_ZeroPolynomial) := ET.g (i := 1) rfl rfl
  have G_HasQuantifier : mg "HasQuantifier" = some (.ref A_HasQuantifier) := ET.g (i := 2) rfl rfl
  have G_NotOneUnknown : mg "NotOneUnknown" = some (.ref A_NotOneUnknown) := ET.g (i := 3) rfl rfl
  have G_NothingToUndo : mg "NothingToUndo" = some (.ref A_NothingToUndo) := ET.g (i := 4) rfl rfl
  have G_InvalidPoly : mg "InvalidPoly" = some (.ref A_InvalidPoly) := ET.g (i := 5) rfl rfl
  have G_InvalidStretch : mg "InvalidStretch" = some (.ref A_InvalidStretch) := ET.g (i := 6) rfl rfl
  have G_InvalidText : mg "InvalidText" = some (.ref A_InvalidText) := ET.g (i := 7) rfl rfl
  have G_InvalidUnknown : mg "InvalidUnknown" = some (.ref A_InvalidUnknown) := ET.g (i := 8) rfl rfl
  have G_NoUnknown : mg "NoUnknown" = some (.ref A_NoUnknown) := ET.g (i := 9) rfl rfl
  have G_HasFree : mg "HasFree" = some (.ref A_HasFree) := ET.g (i := 10) rfl rfl
  have G_Reducible : mg "Reducible" = some (.ref A_Reducible) := ET.g (i := 11) rfl rfl
  have G_NoRoot : mg "NoRoot" = some (.ref A_NoRoot) := ET.g (i := 12) rfl rfl
  have G_InvalidCode : mg "InvalidCode" = some (.ref A_InvalidCode) := ET.g (i := 13) rfl rfl
  have G_TooDeep : mg "TooDeep" = some (.ref A_TooDeep) := ET.g (i := 14) rfl rfl
  have G_TooLarge : mg "TooLarge" = some (.ref A_TooLarge) := ET.g (i := 15) rfl rfl
  have G_InvalidPiece : mg "InvalidPiece" = some (.ref A_InvalidPiece) := ET.g (i := 16) rfl rfl
  have G_NoPiece : mg "NoPiece" = some (.ref A_NoPiece) := ET.g (i := 17) rfl rfl
  have G_InvalidSpot : mg "InvalidSpot" = some (.ref A_InvalidSpot) := ET.g (i := 18) rfl rfl
  have G_Vanishes : mg "Vanishes" = some (.ref A_Vanishes) := ET.g (i := 19) rfl rfl
  have G_NoCell : mg "NoCell" = some (.ref A_NoCell) := ET.g (i := 20) rfl rfl
  have G_InvalidLine : mg "InvalidLine" = some (.ref A_InvalidLine) := ET.g (i := 21) rfl rfl
  have G_InvalidSave : mg "InvalidSave" = some (.ref A_InvalidSave) := ET.g (i := 22) rfl rfl
  have G_InvalidName : mg "InvalidName" = some (.ref A_InvalidName) := ET.g (i := 23) rfl rfl
  have G_Missing : mg "Missing" = some (.ref A_Missing) := ET.g (i := 24) rfl rfl
  have G_Circular : mg "Circular" = some (.ref A_Circular) := ET.g (i := 25) rfl rfl
  have G_NotASentence : mg "NotASentence" = some (.ref A_NotASentence) := ET.g (i := 26) rfl rfl
  have G_CellspireError := ET.gE
  have O_InvalidStretch : OexD P w K mg base 1 "InvalidStretch" A_InvalidStretch (sp_init2 K A_InvalidStretch "low" "high") := by
    obtain ⟨fI, fd, iC, tI, FI, BI⟩ := OI_InvalidStretch.ex
    exact ⟨OI_InvalidStretch.T, G_InvalidStretch, fI, fd, _, iC, tI, ci_InvalidStretch OI_InvalidStretch.T NA_InvalidStretch_low NA_InvalidStretch_high FI, BI⟩
  have O_InvalidText : OexD P w K mg base 1 "InvalidText" A_InvalidText (sp_init1 K A_InvalidText "at") := by
    obtain ⟨fI, fd, iC, tI, FI, BI⟩ := OI_InvalidText.ex
    exact ⟨OI_InvalidText.T, G_InvalidText, fI, fd, _, iC, tI, ci_InvalidText OI_InvalidText.T NA_InvalidText_at FI, BI⟩
  have O_InvalidUnknown : OexD P w K mg base 1 "InvalidUnknown" A_InvalidUnknown (sp_init1 K A_InvalidUnknown "unknown") := by
    obtain ⟨fI, fd, iC, tI, FI, BI⟩ := OI_InvalidUnknown.ex
    exact ⟨OI_InvalidUnknown.T, G_InvalidUnknown, fI, fd, _, iC, tI, ci_InvalidUnknown OI_InvalidUnknown.T NA_InvalidUnknown_unknown FI, BI⟩
  have O_NoUnknown : OexD P w K mg base 1 "NoUnknown" A_NoUnknown (sp_init1 K A_NoUnknown "unknown") := by
    obtain ⟨fI, fd, iC, tI, FI, BI⟩ := OI_NoUnknown.ex
    exact ⟨OI_NoUnknown.T, G_NoUnknown, fI, fd, _, iC, tI, ci_NoUnknown OI_NoUnknown.T NA_NoUnknown_unknown FI, BI⟩
  have O_HasFree : OexD P w K mg base 1 "HasFree" A_HasFree (sp_init1 K A_HasFree "unknown") := by
    obtain ⟨fI, fd, iC, tI, FI, BI⟩ := OI_HasFree.ex
    exact ⟨OI_HasFree.T, G_HasFree, fI, fd, _, iC, tI, ci_HasFree OI_HasFree.T NA_HasFree_unknown FI, BI⟩
  have O_Reducible : OexD P w K mg base 1 "Reducible" A_Reducible (sp_init1 K A_Reducible "row") := by
    obtain ⟨fI, fd, iC, tI, FI, BI⟩ := OI_Reducible.ex
    exact ⟨OI_Reducible.T, G_Reducible, fI, fd, _, iC, tI, ci_Reducible OI_Reducible.T NA_Reducible_row FI, BI⟩
  have O_NoRoot : OexD P w K mg base 1 "NoRoot" A_NoRoot (sp_init1 K A_NoRoot "which") := by
    obtain ⟨fI, fd, iC, tI, FI, BI⟩ := OI_NoRoot.ex
    exact ⟨OI_NoRoot.T, G_NoRoot, fI, fd, _, iC, tI, ci_NoRoot OI_NoRoot.T NA_NoRoot_which FI, BI⟩
  have O_InvalidCode : OexD P w K mg base 1 "InvalidCode" A_InvalidCode (sp_init1 K A_InvalidCode "at") := by
    obtain ⟨fI, fd, iC, tI, FI, BI⟩ := OI_InvalidCode.ex
    exact ⟨OI_InvalidCode.T, G_InvalidCode, fI, fd, _, iC, tI, ci_InvalidCode OI_InvalidCode.T NA_InvalidCode_at FI, BI⟩
  have O_TooDeep : OexD P w K mg base 1 "TooDeep" A_TooDeep (sp_init1 K A_TooDeep "product") := by
    obtain ⟨fI, fd, iC, tI, FI, BI⟩ := OI_TooDeep.ex
    exact ⟨OI_TooDeep.T, G_TooDeep, fI, fd, _, iC, tI, ci_TooDeep OI_TooDeep.T NA_TooDeep_product FI, BI⟩
  have O_TooLarge : OexD P w K mg base 1 "TooLarge" A_TooLarge (sp_init1 K A_TooLarge "what") := by
    obtain ⟨fI, fd, iC, tI, FI, BI⟩ := OI_TooLarge.ex
    exact ⟨OI_TooLarge.T, G_TooLarge, fI, fd, _, iC, tI, ci_TooLarge OI_TooLarge.T NA_TooLarge_what FI, BI⟩
  have O_InvalidPiece : OexD P w K mg base 1 "InvalidPiece" A_InvalidPiece (sp_init1 K A_InvalidPiece "which") := by
    obtain ⟨fI, fd, iC, tI, FI, BI⟩ := OI_InvalidPiece.ex
    exact ⟨OI_InvalidPiece.T, G_InvalidPiece, fI, fd, _, iC, tI, ci_InvalidPiece OI_InvalidPiece.T NA_InvalidPiece_which FI, BI⟩
  have O_NoPiece : OexD P w K mg base 1 "NoPiece" A_NoPiece (sp_init1 K A_NoPiece "which") := by
    obtain ⟨fI, fd, iC, tI, FI, BI⟩ := OI_NoPiece.ex
    exact ⟨OI_NoPiece.T, G_NoPiece, fI, fd, _, iC, tI, ci_NoPiece OI_NoPiece.T NA_NoPiece_which FI, BI⟩
  have O_InvalidSpot : OexD P w K mg base 1 "InvalidSpot" A_InvalidSpot (sp_init1 K A_InvalidSpot "level") := by
    obtain ⟨fI, fd, iC, tI, FI, BI⟩ := OI_InvalidSpot.ex
    exact ⟨OI_InvalidSpot.T, G_InvalidSpot, fI, fd, _, iC, tI, ci_InvalidSpot OI_InvalidSpot.T NA_InvalidSpot_level FI, BI⟩
  have O_Vanishes : OexD P w K mg base 1 "Vanishes" A_Vanishes (sp_init1 K A_Vanishes "level") := by
    obtain ⟨fI, fd, iC, tI, FI, BI⟩ := OI_Vanishes.ex
    exact ⟨OI_Vanishes.T, G_Vanishes, fI, fd, _, iC, tI, ci_Vanishes OI_Vanishes.T NA_Vanishes_level FI, BI⟩
  have O_NoCell : OexD P w K mg base 1 "NoCell" A_NoCell (sp_init1 K A_NoCell "cell") := by
    obtain ⟨fI, fd, iC, tI, FI, BI⟩ := OI_NoCell.ex
    exact ⟨OI_NoCell.T, G_NoCell, fI, fd, _, iC, tI, ci_NoCell OI_NoCell.T NA_NoCell_cell FI, BI⟩
  have O_InvalidLine : OexD P w K mg base 1 "InvalidLine" A_InvalidLine (sp_init1 K A_InvalidLine "line") := by
    obtain ⟨fI, fd, iC, tI, FI, BI⟩ := OI_InvalidLine.ex
    exact ⟨OI_InvalidLine.T, G_InvalidLine, fI, fd, _, iC, tI, ci_InvalidLine OI_InvalidLine.T NA_InvalidLine_line FI, BI⟩
  have O_InvalidSave : OexD P w K mg base 1 "InvalidSave" A_InvalidSave (sp_init1 K A_InvalidSave "line") := by
    obtain ⟨fI, fd, iC, tI, FI, BI⟩ := OI_InvalidSave.ex
    exact ⟨OI_InvalidSave.T, G_InvalidSave, fI, fd, _, iC, tI, ci_InvalidSave OI_InvalidSave.T NA_InvalidSave_line FI, BI⟩
  have O_InvalidName : OexD P w K mg base 1 "InvalidName" A_InvalidName (sp_init1 K A_InvalidName "name") := by
    obtain ⟨fI, fd, iC, tI, FI, BI⟩ := OI_InvalidName.ex
    exact ⟨OI_InvalidName.T, G_InvalidName, fI, fd, _, iC, tI, ci_InvalidName OI_InvalidName.T NA_InvalidName_name FI, BI⟩
  have O_Missing : OexD P w K mg base 1 "Missing" A_Missing (sp_init1 K A_Missing "name") := by
    obtain ⟨fI, fd, iC, tI, FI, BI⟩ := OI_Missing.ex
    exact ⟨OI_Missing.T, G_Missing, fI, fd, _, iC, tI, ci_Missing OI_Missing.T NA_Missing_name FI, BI⟩
  have O_Circular : OexD P w K mg base 1 "Circular" A_Circular (sp_init1 K A_Circular "name") := by
    obtain ⟨fI, fd, iC, tI, FI, BI⟩ := OI_Circular.ex
    exact ⟨OI_Circular.T, G_Circular, fI, fd, _, iC, tI, ci_Circular OI_Circular.T NA_Circular_name FI, BI⟩
  have O_NotASentence : OexD P w K mg base 1 "NotASentence" A_NotASentence (sp_init1 K A_NotASentence "name") := by
    obtain ⟨fI, fd, iC, tI, FI, BI⟩ := OI_NotASentence.ex
    exact ⟨OI_NotASentence.T, G_NotASentence, fI, fd, _, iC, tI, ci_NotASentence OI_NotASentence.T NA_NotASentence_name FI, BI⟩
  have C_sign_of := c_sign_of (P := P) (w := w) (base := base) (F := D_sign_of)
  have C_compare := c_compare (P := P) (w := w) (base := base) (C_sign_of := C_sign_of) (F := D_compare)
  have C_floor := c_floor (P := P) (w := w) (base := base) (F := D_floor)
  have C__law_is_integer := c__law_is_integer (P := P) (w := w) (base := base) (T := T) (F := D__law_is_integer)
  have H__law_is_integer := h__law_is_integer (P := P) (w := w) (base := base) (T := T) (F := D__law_is_integer)
  have C__law_same := c__law_same (P := P) (w := w) (base := base) (T := T) (C__law_is_integer := C__law_is_integer) (F := D__law_same)
  have H__law_same := h__law_same (P := P) (w := w) (base := base) (T := T) (H__law_is_integer := H__law_is_integer) (F := D__law_same)
  have C__law_cell := c__law_cell (P := P) (w := w) (base := base) (T := T) (F := D__law_cell)
  have C__law_box := c__law_box (P := P) (w := w) (base := base) (T := T) (C__law_cell := C__law_cell) (F := D__law_box)
  have C__law_take := c__law_take (P := P) (w := w) (base := base) (T := T) (F := D__law_take)
  have C__law_turned := c__law_turned (P := P) (w := w) (base := base) (C__law_take := C__law_take) (F := D__law_turned)
  have C__law_power := c__law_power (P := P) (w := w) (base := base) (T := T) (F := D__law_power)
  have C__law_limbs := c__law_limbs (P := P) (w := w) (base := base) (T := T) (C__law_take := C__law_take) (F := D__law_limbs)
  have C__law_gcd := c__law_gcd (P := P) (w := w) (base := base) (T := T) (F := D__law_gcd)
  have C__law_lowest := c__law_lowest (P := P) (w := w) (base := base) (C__law_gcd := C__law_gcd) (F := D__law_lowest)
  have C__law_long := c__law_long (P := P) (w := w) (base := base) (C__law_take := C__law_take) (C__law_turned := C__law_turned) (C__law_power := C__law_power) (C__law_limbs := C__law_limbs) (F := D__law_long)
  have C__law_number := c__law_number (P := P) (w := w) (base := base) (T := T) (C__law_take := C__law_take) (C__law_turned := C__law_turned) (C__law_power := C__law_power) (C__law_limbs := C__law_limbs) (C__law_long := C__law_long) (C__law_lowest := C__law_lowest) (F := D__law_number)
  obtain ⟨C_fraction, CD_fraction⟩ := c_fraction (P := P) (w := w) (base := base) (m_gcd := m_gcd) (X_DivisionByZero := X_DivisionByZero) (F := D_fraction)
  have C_plus := c_plus (P := P) (w := w) (base := base) (C_fraction := C_fraction) (F := D_plus)
  have C_minus := c_minus (P := P) (w := w) (base := base) (C_fraction := C_fraction) (F := D_minus)
  have C_times := c_times (P := P) (w := w) (base := base) (C_fraction := C_fraction) (F := D_times)
  have C_over := c_over (P := P) (w := w) (base := base) (X_DivisionByZero := X_DivisionByZero) (C_fraction := C_fraction) (F := D_over)
  have C_bezout := c_bezout (P := P) (w := w) (base := base) (T := T) (C_sign_of := C_sign_of) (F := D_bezout)
  have C__law_bezout_holds := c__law_bezout_holds (P := P) (w := w) (base := base) (T := T) (C_bezout := C_bezout) (C__law_is_integer := C__law_is_integer) (F := D__law_bezout_holds)
  have C__law_two := c__law_two (P := P) (w := w) (base := base) (T := T) (C__law_take := C__law_take) (C__law_turned := C__law_turned) (C__law_limbs := C__law_limbs) (C__law_long := C__law_long) (F := D__law_two)
  have C__law_pair := c__law_pair (P := P) (w := w) (base := base) (T := T) (C__law_take := C__law_take) (C__law_turned := C__law_turned) (C__law_limbs := C__law_limbs) (C__law_long := C__law_long) (F := D__law_pair)
  have C__law_order_holds := c__law_order_holds (P := P) (w := w) (base := base) (T := T) (C_compare := C_compare) (C__law_is_integer := C__law_is_integer) (F := D__law_order_holds)
  have C__law_floor_holds := c__law_floor_holds (P := P) (w := w) (base := base) (T := T) (C_floor := C_floor) (C__law_is_integer := C__law_is_integer) (F := D__law_floor_holds)
  have C__law_due := c__law_due (P := P) (w := w) (base := base) (C__law_lowest := C__law_lowest) (F := D__law_due)
  have C__law_done := c__law_done (P := P) (w := w) (base := base) (C_plus := C_plus) (C_minus := C_minus) (C_times := C_times) (C_over := C_over) (F := D__law_done)
  have C__law_number_is := c__law_number_is (P := P) (w := w) (base := base) (C__law_is_integer := C__law_is_integer) (F := D__law_number_is)
  have C__law_kinds := c__law_kinds (P := P) (w := w) (base := base) (T := T) (ET := ET) (F := D__law_kinds)
  have P__law_kinds := p__law_kinds (P := P) (w := w) (base := base) (D := A_DivisionByZero) (n := 0) (T := T) (ET := ET) (hn := rfl) (F := D__law_kinds)
  have C__law_alone := c__law_alone (P := P) (w := w) (base := base) (T := T) (z_ValueError := z_ValueError) (ET := ET) (C__law_kinds := C__law_kinds) (F := D__law_alone)
  have P__law_alone := p__law_alone (P := P) (w := w) (base := base) (D := A_DivisionByZero) (n := 0) (T := T) (z_ValueError := z_ValueError) (ET := ET) (hn := rfl) (P__law_kinds := P__law_kinds) (F := D__law_alone)
  have C__law_word_is := c__law_word_is (P := P) (w := w) (base := base) (T := T) (z_str := z_str) (F := D__law_word_is)
  have C__law_fraction_holds := c__law_fraction_holds (P := P) (w := w) (base := base) (T := T) (G_DivisionByZero := G_DivisionByZero) (eD := eD) (C_fraction := C_fraction) (CD_fraction := CD_fraction) (C__law_same := C__law_same) (C__law_lowest := C__law_lowest) (P__law_alone := P__law_alone) (F := D__law_fraction_holds)
  have C__law_over_refused := c__law_over_refused (P := P) (w := w) (base := base) (T := T) (G_DivisionByZero := G_DivisionByZero) (eD := eD) (C_over := C_over) (P__law_alone := P__law_alone) (F := D__law_over_refused)
  have C__law_sums_hold := c__law_sums_hold (P := P) (w := w) (base := base) (T := T) (C_over := C_over) (C__law_same := C__law_same) (C__law_due := C__law_due) (C__law_done := C__law_done) (C__law_over_refused := C__law_over_refused) (F := D__law_sums_hold)
  have C__law_two_hold := c__law_two_hold (P := P) (w := w) (base := base) (C__law_sums_hold := C__law_sums_hold) (C__law_over_refused := C__law_over_refused) (C__law_order_holds := C__law_order_holds) (C__law_floor_holds := C__law_floor_holds) (F := D__law_two_hold)
  have C__law_beside := c__law_beside (P := P) (w := w) (base := base) (T := T) (C__law_take := C__law_take) (C__law_turned := C__law_turned) (C__law_limbs := C__law_limbs) (C__law_lowest := C__law_lowest) (C__law_number := C__law_number) (F := D__law_beside)
  have C__law_run_holds := c__law_run_holds (P := P) (w := w) (base := base) (T := T) (C__law_take := C__law_take) (C__law_number := C__law_number) (C__law_due := C__law_due) (C__law_done := C__law_done) (C__law_same := C__law_same) (C__law_order_holds := C__law_order_holds) (C__law_floor_holds := C__law_floor_holds) (F := D__law_run_holds)
  have C__law_plain_errors_hold := c__law_plain_errors_hold (P := P) (w := w) (base := base) (ET := ET) (C__law_alone := C__law_alone) (X_DivisionByZero := X_DivisionByZero) (X_ZeroPolynomial := X_ZeroPolynomial) (X_HasQuantifier := X_HasQuantifier) (X_NotOneUnknown := X_NotOneUnknown) (X_NothingToUndo := X_NothingToUndo) (X_InvalidPoly := X_InvalidPoly) (F := D__law_plain_errors_hold)
  have C__law_numbered_errors_hold := c__law_numbered_errors_hold (P := P) (w := w) (base := base) (ET := ET) (C__law_alone := C__law_alone) (O_InvalidText := O_InvalidText) (NA_InvalidText_at := NA_InvalidText_at) (O_NoRoot := O_NoRoot) (NA_NoRoot_which := NA_NoRoot_which) (O_InvalidCode := O_InvalidCode) (NA_InvalidCode_at := NA_InvalidCode_at) (O_TooDeep := O_TooDeep) (NA_TooDeep_product := NA_TooDeep_product) (O_InvalidPiece := O_InvalidPiece) (NA_InvalidPiece_which := NA_InvalidPiece_which) (O_NoPiece := O_NoPiece) (NA_NoPiece_which := NA_NoPiece_which) (O_InvalidSpot := O_InvalidSpot) (NA_InvalidSpot_level := NA_InvalidSpot_level) (O_Vanishes := O_Vanishes) (NA_Vanishes_level := NA_Vanishes_level) (C__law_take := C__law_take) (C__law_long := C__law_long) (C__law_number_is := C__law_number_is) (F := D__law_numbered_errors_hold)
  have C__law_lines_hold := c__law_lines_hold (P := P) (w := w) (base := base) (ET := ET) (C__law_alone := C__law_alone) (O_InvalidLine := O_InvalidLine) (NA_InvalidLine_line := NA_InvalidLine_line) (O_InvalidSave := O_InvalidSave) (NA_InvalidSave_line := NA_InvalidSave_line) (C__law_take := C__law_take) (C__law_number_is := C__law_number_is) (F := D__law_lines_hold)
  have C__law_word := c__law_word (P := P) (w := w) (base := base) (T := T) (C__law_take := C__law_take) (F := D__law_word)
  have C__law_unknown_errors_hold := c__law_unknown_errors_hold (P := P) (w := w) (base := base) (ET := ET) (C__law_alone := C__law_alone) (O_InvalidUnknown := O_InvalidUnknown) (NA_InvalidUnknown_unknown := NA_InvalidUnknown_unknown) (O_NoUnknown := O_NoUnknown) (NA_NoUnknown_unknown := NA_NoUnknown_unknown) (O_HasFree := O_HasFree) (NA_HasFree_unknown := NA_HasFree_unknown) (O_TooLarge := O_TooLarge) (NA_TooLarge_what := NA_TooLarge_what) (C__law_take := C__law_take) (C__law_word_is := C__law_word_is) (F := D__law_unknown_errors_hold)
  have C__law_named_errors_hold := c__law_named_errors_hold (P := P) (w := w) (base := base) (ET := ET) (C__law_alone := C__law_alone) (O_InvalidName := O_InvalidName) (NA_InvalidName_name := NA_InvalidName_name) (O_Missing := O_Missing) (NA_Missing_name := NA_Missing_name) (O_Circular := O_Circular) (NA_Circular_name := NA_Circular_name) (O_NotASentence := O_NotASentence) (NA_NotASentence_name := NA_NotASentence_name) (C__law_word := C__law_word) (C__law_word_is := C__law_word_is) (F := D__law_named_errors_hold)
  have C__law_tuple_errors_hold := c__law_tuple_errors_hold (P := P) (w := w) (base := base) (ET := ET) (C__law_alone := C__law_alone) (O_InvalidStretch := O_InvalidStretch) (NA_InvalidStretch_low := NA_InvalidStretch_low) (NA_InvalidStretch_high := NA_InvalidStretch_high) (O_Reducible := O_Reducible) (NA_Reducible_row := NA_Reducible_row) (O_NoCell := O_NoCell) (NA_NoCell_cell := NA_NoCell_cell) (T := T) (C__law_take := C__law_take) (C__law_number := C__law_number) (C__law_beside := C__law_beside) (C__law_same := C__law_same) (F := D__law_tuple_errors_hold)
  have C__law_errors_hold := c__law_errors_hold (P := P) (w := w) (base := base) (C__law_plain_errors_hold := C__law_plain_errors_hold) (C__law_numbered_errors_hold := C__law_numbered_errors_hold) (C__law_lines_hold := C__law_lines_hold) (C__law_unknown_errors_hold := C__law_unknown_errors_hold) (C__law_named_errors_hold := C__law_named_errors_hold) (C__law_tuple_errors_hold := C__law_tuple_errors_hold) (F := D__law_errors_hold)
  have C_law := c_law (P := P) (w := w) (base := base) (C__law_box := C__law_box) (C__law_two := C__law_two) (C__law_bezout_holds := C__law_bezout_holds) (C__law_pair := C__law_pair) (C__law_fraction_holds := C__law_fraction_holds) (C__law_number := C__law_number) (C__law_beside := C__law_beside) (C__law_two_hold := C__law_two_hold) (C__law_run_holds := C__law_run_holds) (C__law_errors_hold := C__law_errors_hold) (F := D_law)
  exact C_law
end
end My
namespace My
open MyH PySem PySem.Spec PyProof.Rows L2
theorem facts {P : Program} {w : World} {K : PySem.W.Frag} {h : Heap} {mg : Str → Option Value} {f : Addr} (X : K.In h) (G : h.Ns mainGlobals mg) (hfa : mg ("law" : Str) = some (.ref f)) (cc : ∀ p ∈ ps_, He.SaysD p.1 p.2 K) (e : ex K = true) :
    ∃ fd : FuncData, (∀ (s : Shared) (v : Value), BindsTo s fd ⟨[v], []⟩ [("script", v)]) ∧ ∀ base : Heap, K.In base → base.Ns mainGlobals mg → FnOk P w K mg base (L2.CX P w) 8 f fd ["script"] (sp_law K) := by
  have c0 : He.SaysD ((fa, []) : Pt).1 ((fa, []) : Pt).2 K := all_mem (p := fun p : Pt => He.SaysD p.1 p.2 K) (a := (fa, [])) cc 0 rfl
  have c1 : He.SaysD (([], fp0) : Pt).1 (([], fp0) : Pt).2 K := all_mem (p := fun p : Pt => He.SaysD p.1 p.2 K) (a := ([], fp0)) cc 1 rfl
  have c2 : He.SaysD (([], fp1) : Pt).1 (([], fp1) : Pt).2 K := all_mem (p := fun p : Pt => He.SaysD p.1 p.2 K) (a := ([], fp1)) cc 2 rfl
  obtain ⟨f_sign_of, fd_sign_of, D_sign_of, B_sign_of⟩ := defF_of (x := "sign_of") (st := s_sign_of) (ps := ["n"]) X G (c0.fact 0 (f := .glo "sign_of") rfl) (c1.def_ 0 (d := dOf "sign_of" s_sign_of) rfl) (fun _ _ _ _ _ _ us hl => match us, hl with | [_], _ => rfl)
  obtain ⟨f_compare, fd_compare, D_compare, B_compare⟩ := defF_of (x := "compare") (st := s_compare) (ps := ["a", "b"]) X G (c0.fact 1 (f := .glo "compare") rfl) (c1.def_ 1 (d := dOf "compare" s_compare) rfl) (fun _ _ _ _ _ _ us hl => match us, hl with | [_, _], _ => rfl)
  obtain ⟨f_floor, fd_floor, D_floor, B_floor⟩ := defF_of (x := "floor") (st := s_floor) (ps := ["a"]) X G (c0.fact 2 (f := .glo "floor") rfl) (c1.def_ 2 (d := dOf "floor" s_floor) rfl) (fun _ _ _ _ _ _ us hl => match us, hl with | [_], _ => rfl)
  obtain ⟨f__law_is_integer, fd__law_is_integer, D__law_is_integer, B__law_is_integer⟩ := defF_of (x := "_law_is_integer") (st := s__law_is_integer) (ps := ["told"]) X G (c0.fact 3 (f := .glo "_law_is_integer") rfl) (c1.def_ 3 (d := dOf "_law_is_integer" s__law_is_integer) rfl) (fun _ _ _ _ _ _ us hl => match us, hl with | [_], _ => rfl)
  obtain ⟨f__law_same, fd__law_same, D__law_same, B__law_same⟩ := defF_of (x := "_law_same") (st := s__law_same) (ps := ["told", "due"]) X G (c0.fact 4 (f := .glo "_law_same") rfl) (c1.def_ 4 (d := dOf "_law_same" s__law_same) rfl) (fun _ _ _ _ _ _ us hl => match us, hl with | [_, _], _ => rfl)
  obtain ⟨f__law_cell, fd__law_cell, D__law_cell, B__law_cell⟩ := defF_of (x := "_law_cell") (st := s__law_cell) (ps := ["script", "k"]) X G (c0.fact 5 (f := .glo "_law_cell") rfl) (c1.def_ 5 (d := dOf "_law_cell" s__law_cell) rfl) (fun _ _ _ _ _ _ us hl => match us, hl with | [_, _], _ => rfl)
  obtain ⟨f__law_box, fd__law_box, D__law_box, B__law_box⟩ := defF_of (x := "_law_box") (st := s__law_box) (ps := ["script", "k"]) X G (c0.fact 6 (f := .glo "_law_box") rfl) (c1.def_ 6 (d := dOf "_law_box" s__law_box) rfl) (fun _ _ _ _ _ _ us hl => match us, hl with | [_, _], _ => rfl)
  obtain ⟨f__law_take, fd__law_take, D__law_take, B__law_take⟩ := defF_of (x := "_law_take") (st := s__law_take) (ps := ["box", "many"]) X G (c0.fact 7 (f := .glo "_law_take") rfl) (c1.def_ 7 (d := dOf "_law_take" s__law_take) rfl) (fun _ _ _ _ _ _ us hl => match us, hl with | [_, _], _ => rfl)
  obtain ⟨f__law_turned, fd__law_turned, D__law_turned, B__law_turned⟩ := defF_of (x := "_law_turned") (st := s__law_turned) (ps := ["box", "number"]) X G (c0.fact 8 (f := .glo "_law_turned") rfl) (c1.def_ 8 (d := dOf "_law_turned" s__law_turned) rfl) (fun _ _ _ _ _ _ us hl => match us, hl with | [_, _], _ => rfl)
  obtain ⟨f__law_power, fd__law_power, D__law_power, B__law_power⟩ := defF_of (x := "_law_power") (st := s__law_power) (ps := ["root", "count"]) X G (c0.fact 9 (f := .glo "_law_power") rfl) (c1.def_ 9 (d := dOf "_law_power" s__law_power) rfl) (fun _ _ _ _ _ _ us hl => match us, hl with | [_, _], _ => rfl)
  obtain ⟨f__law_limbs, fd__law_limbs, D__law_limbs, B__law_limbs⟩ := defF_of (x := "_law_limbs") (st := s__law_limbs) (ps := ["box", "count"]) X G (c0.fact 10 (f := .glo "_law_limbs") rfl) (c1.def_ 10 (d := dOf "_law_limbs" s__law_limbs) rfl) (fun _ _ _ _ _ _ us hl => match us, hl with | [_, _], _ => rfl)
  obtain ⟨f__law_gcd, fd__law_gcd, D__law_gcd, B__law_gcd⟩ := defF_of (x := "_law_gcd") (st := s__law_gcd) (ps := ["one", "two"]) X G (c0.fact 11 (f := .glo "_law_gcd") rfl) (c1.def_ 11 (d := dOf "_law_gcd" s__law_gcd) rfl) (fun _ _ _ _ _ _ us hl => match us, hl with | [_, _], _ => rfl)
  obtain ⟨f__law_lowest, fd__law_lowest, D__law_lowest, B__law_lowest⟩ := defF_of (x := "_law_lowest") (st := s__law_lowest) (ps := ["top", "bottom"]) X G (c0.fact 12 (f := .glo "_law_lowest") rfl) (c1.def_ 12 (d := dOf "_law_lowest" s__law_lowest) rfl) (fun _ _ _ _ _ _ us hl => match us, hl with | [_, _], _ => rfl)
  obtain ⟨f__law_long, fd__law_long, D__law_long, B__law_long⟩ := defF_of (x := "_law_long") (st := s__law_long) (ps := ["box"]) X G (c0.fact 13 (f := .glo "_law_long") rfl) (c1.def_ 13 (d := dOf "_law_long" s__law_long) rfl) (fun _ _ _ _ _ _ us hl => match us, hl with | [_], _ => rfl)
  obtain ⟨f__law_number, fd__law_number, D__law_number, B__law_number⟩ := defF_of (x := "_law_number") (st := s__law_number) (ps := ["box"]) X G (c0.fact 14 (f := .glo "_law_number") rfl) (c1.def_ 14 (d := dOf "_law_number" s__law_number) rfl) (fun _ _ _ _ _ _ us hl => match us, hl with | [_], _ => rfl)
  obtain ⟨f_fraction, fd_fraction, D_fraction⟩ := defE_of (x := "fraction") (st := s_fraction) (ps := ["n", "d"]) (dvs := [.int 1]) (n2 := 1) X G (c0.fact 15 (f := .glo "fraction") rfl) (by decide) (c1.def_ 15 rfl) (fun _ _ _ _ _ _ _ us its hu hi => match us, its, hu, hi with | [_, _], [_], _, _ => ⟨_, rfl, rfl⟩) rfl (fun _ _ _ _ _ _ _ us its hu hi => match us, its, hu, hi with | [_], [_], _, _ => ⟨_, rfl, rfl⟩)
  obtain ⟨f_plus, fd_plus, D_plus, B_plus⟩ := defF_of (x := "plus") (st := s_plus) (ps := ["a", "b"]) X G (c0.fact 16 (f := .glo "plus") rfl) (c1.def_ 16 (d := dOf "plus" s_plus) rfl) (fun _ _ _ _ _ _ us hl => match us, hl with | [_, _], _ => rfl)
  obtain ⟨f_minus, fd_minus, D_minus, B_minus⟩ := defF_of (x := "minus") (st := s_minus) (ps := ["a", "b"]) X G (c0.fact 17 (f := .glo "minus") rfl) (c1.def_ 17 (d := dOf "minus" s_minus) rfl) (fun _ _ _ _ _ _ us hl => match us, hl with | [_, _], _ => rfl)
  obtain ⟨f_times, fd_times, D_times, B_times⟩ := defF_of (x := "times") (st := s_times) (ps := ["a", "b"]) X G (c0.fact 18 (f := .glo "times") rfl) (c1.def_ 18 (d := dOf "times" s_times) rfl) (fun _ _ _ _ _ _ us hl => match us, hl with | [_, _], _ => rfl)
  obtain ⟨f_over, fd_over, D_over, B_over⟩ := defF_of (x := "over") (st := s_over) (ps := ["a", "b"]) X G (c0.fact 19 (f := .glo "over") rfl) (c1.def_ 19 (d := dOf "over" s_over) rfl) (fun _ _ _ _ _ _ us hl => match us, hl with | [_, _], _ => rfl)
  obtain ⟨f_bezout, fd_bezout, D_bezout, B_bezout⟩ := defF_of (x := "bezout") (st := s_bezout) (ps := ["a", "b"]) X G (c0.fact 20 (f := .glo "bezout") rfl) (c1.def_ 20 (d := dOf "bezout" s_bezout) rfl) (fun _ _ _ _ _ _ us hl => match us, hl with | [_, _], _ => rfl)
  obtain ⟨f__law_bezout_holds, fd__law_bezout_holds, D__law_bezout_holds, B__law_bezout_holds⟩ := defF_of (x := "_law_bezout_holds") (st := s__law_bezout_holds) (ps := ["a", "b"]) X G (c0.fact 21 (f := .glo "_law_bezout_holds") rfl) (c1.def_ 21 (d := dOf "_law_bezout_holds" s__law_bezout_holds) rfl) (fun _ _ _ _ _ _ us hl => match us, hl with | [_, _], _ => rfl)
  obtain ⟨f__law_two, fd__law_two, D__law_two, B__law_two⟩ := defF_of (x := "_law_two") (st := s__law_two) (ps := ["box"]) X G (c0.fact 22 (f := .glo "_law_two") rfl) (c1.def_ 22 (d := dOf "_law_two" s__law_two) rfl) (fun _ _ _ _ _ _ us hl => match us, hl with | [_], _ => rfl)
  obtain ⟨f__law_pair, fd__law_pair, D__law_pair, B__law_pair⟩ := defF_of (x := "_law_pair") (st := s__law_pair) (ps := ["box"]) X G (c0.fact 23 (f := .glo "_law_pair") rfl) (c1.def_ 23 (d := dOf "_law_pair" s__law_pair) rfl) (fun _ _ _ _ _ _ us hl => match us, hl with | [_], _ => rfl)
  obtain ⟨f__law_order_holds, fd__law_order_holds, D__law_order_holds, B__law_order_holds⟩ := defF_of (x := "_law_order_holds") (st := s__law_order_holds) (ps := ["a", "b"]) X G (c0.fact 24 (f := .glo "_law_order_holds") rfl) (c1.def_ 24 (d := dOf "_law_order_holds" s__law_order_holds) rfl) (fun _ _ _ _ _ _ us hl => match us, hl with | [_, _], _ => rfl)
  obtain ⟨f__law_floor_holds, fd__law_floor_holds, D__law_floor_holds, B__law_floor_holds⟩ := defF_of (x := "_law_floor_holds") (st := s__law_floor_holds) (ps := ["a"]) X G (c0.fact 25 (f := .glo "_law_floor_holds") rfl) (c1.def_ 25 (d := dOf "_law_floor_holds" s__law_floor_holds) rfl) (fun _ _ _ _ _ _ us hl => match us, hl with | [_], _ => rfl)
  obtain ⟨f__law_due, fd__law_due, D__law_due, B__law_due⟩ := defF_of (x := "_law_due") (st := s__law_due) (ps := ["deed", "a", "b"]) X G (c0.fact 26 (f := .glo "_law_due") rfl) (c1.def_ 26 (d := dOf "_law_due" s__law_due) rfl) (fun _ _ _ _ _ _ us hl => match us, hl with | [_, _, _], _ => rfl)
  obtain ⟨f__law_done, fd__law_done, D__law_done, B__law_done⟩ := defF_of (x := "_law_done") (st := s__law_done) (ps := ["deed", "a", "b"]) X G (c0.fact 27 (f := .glo "_law_done") rfl) (c1.def_ 27 (d := dOf "_law_done" s__law_done) rfl) (fun _ _ _ _ _ _ us hl => match us, hl with | [_, _, _], _ => rfl)
  obtain ⟨f__law_number_is, fd__law_number_is, D__law_number_is, B__law_number_is⟩ := defF_of (x := "_law_number_is") (st := s__law_number_is) (ps := ["told", "due"]) X G (c0.fact 28 (f := .glo "_law_number_is") rfl) (c1.def_ 28 (d := dOf "_law_number_is" s__law_number_is) rfl) (fun _ _ _ _ _ _ us hl => match us, hl with | [_, _], _ => rfl)
  obtain ⟨f__law_kinds, fd__law_kinds, D__law_kinds, B__law_kinds⟩ := defF_of (x := "_law_kinds") (st := s__law_kinds) (ps := ["failure"]) X G (c0.fact 29 (f := .glo "_law_kinds") rfl) (c1.def_ 29 (d := dOf "_law_kinds" s__law_kinds) rfl) (fun _ _ _ _ _ _ us hl => match us, hl with | [_], _ => rfl)
  obtain ⟨f__law_alone, fd__law_alone, D__law_alone, B__law_alone⟩ := defF_of (x := "_law_alone") (st := s__law_alone) (ps := ["failure", "at"]) X G (c0.fact 30 (f := .glo "_law_alone") rfl) (c1.def_ 30 (d := dOf "_law_alone" s__law_alone) rfl) (fun _ _ _ _ _ _ us hl => match us, hl with | [_, _], _ => rfl)
  obtain ⟨f__law_word_is, fd__law_word_is, D__law_word_is, B__law_word_is⟩ := defF_of (x := "_law_word_is") (st := s__law_word_is) (ps := ["told", "due"]) X G (c0.fact 31 (f := .glo "_law_word_is") rfl) (c1.def_ 31 (d := dOf "_law_word_is" s__law_word_is) rfl) (fun _ _ _ _ _ _ us hl => match us, hl with | [_, _], _ => rfl)
  obtain ⟨f__law_fraction_holds, fd__law_fraction_holds, D__law_fraction_holds, B__law_fraction_holds⟩ := defF_of (x := "_law_fraction_holds") (st := s__law_fraction_holds) (ps := ["n", "d"]) X G (c0.fact 32 (f := .glo "_law_fraction_holds") rfl) (c1.def_ 32 (d := dOf "_law_fraction_holds" s__law_fraction_holds) rfl) (fun _ _ _ _ _ _ us hl => match us, hl with | [_, _], _ => rfl)
  obtain ⟨f__law_over_refused, fd__law_over_refused, D__law_over_refused, B__law_over_refused⟩ := defF_of (x := "_law_over_refused") (st := s__law_over_refused) (ps := ["a", "b"]) X G (c0.fact 33 (f := .glo "_law_over_refused") rfl) (c1.def_ 33 (d := dOf "_law_over_refused" s__law_over_refused) rfl) (fun _ _ _ _ _ _ us hl => match us, hl with | [_, _], _ => rfl)
  obtain ⟨f__law_sums_hold, fd__law_sums_hold, D__law_sums_hold, B__law_sums_hold⟩ := defF_of (x := "_law_sums_hold") (st := s__law_sums_hold) (ps := ["a", "b"]) X G (c0.fact 34 (f := .glo "_law_sums_hold") rfl) (c1.def_ 34 (d := dOf "_law_sums_hold" s__law_sums_hold) rfl) (fun _ _ _ _ _ _ us hl => match us, hl with | [_, _], _ => rfl)
  obtain ⟨f__law_two_hold, fd__law_two_hold, D__law_two_hold, B__law_two_hold⟩ := defF_of (x := "_law_two_hold") (st := s__law_two_hold) (ps := ["a", "b"]) X G (c0.fact 35 (f := .glo "_law_two_hold") rfl) (c1.def_ 35 (d := dOf "_law_two_hold" s__law_two_hold) rfl) (fun _ _ _ _ _ _ us hl => match us, hl with | [_, _], _ => rfl)
  obtain ⟨f__law_beside, fd__law_beside, D__law_beside, B__law_beside⟩ := defF_of (x := "_law_beside") (st := s__law_beside) (ps := ["box", "a"]) X G (c0.fact 36 (f := .glo "_law_beside") rfl) (c1.def_ 36 (d := dOf "_law_beside" s__law_beside) rfl) (fun _ _ _ _ _ _ us hl => match us, hl with | [_, _], _ => rfl)
  obtain ⟨f__law_run_holds, fd__law_run_holds, D__law_run_holds, B__law_run_holds⟩ := defF_of (x := "_law_run_holds") (st := s__law_run_holds) (ps := ["box"]) X G (c0.fact 37 (f := .glo "_law_run_holds") rfl) (c1.def_ 37 (d := dOf "_law_run_holds" s__law_run_holds) rfl) (fun _ _ _ _ _ _ us hl => match us, hl with | [_], _ => rfl)
  obtain ⟨f__law_plain_errors_hold, fd__law_plain_errors_hold, D__law_plain_errors_hold, B__law_plain_errors_hold⟩ := defF_of (x := "_law_plain_errors_hold") (st := s__law_plain_errors_hold) (ps := []) X G (c0.fact 38 (f := .glo "_law_plain_errors_hold") rfl) (c1.def_ 38 (d := dOf "_law_plain_errors_hold" s__law_plain_errors_hold) rfl) (fun _ _ _ _ _ _ us hl => match us, hl with | [], _ => rfl)
  obtain ⟨f__law_numbered_errors_hold, fd__law_numbered_errors_hold, D__law_numbered_errors_hold, B__law_numbered_errors_hold⟩ := defF_of (x := "_law_numbered_errors_hold") (st := s__law_numbered_errors_hold) (ps := ["box"]) X G (c0.fact 39 (f := .glo "_law_numbered_errors_hold") rfl) (c1.def_ 39 (d := dOf "_law_numbered_errors_hold" s__law_numbered_errors_hold) rfl) (fun _ _ _ _ _ _ us hl => match us, hl with | [_], _ => rfl)
  obtain ⟨f__law_lines_hold, fd__law_lines_hold, D__law_lines_hold, B__law_lines_hold⟩ := defF_of (x := "_law_lines_hold") (st := s__law_lines_hold) (ps := ["box"]) X G (c0.fact 40 (f := .glo "_law_lines_hold") rfl) (c2.def_ 0 (d := dOf "_law_lines_hold" s__law_lines_hold) rfl) (fun _ _ _ _ _ _ us hl => match us, hl with | [_], _ => rfl)
  obtain ⟨f__law_word, fd__law_word, D__law_word, B__law_word⟩ := defF_of (x := "_law_word") (st := s__law_word) (ps := ["box"]) X G (c0.fact 41 (f := .glo "_law_word") rfl) (c2.def_ 1 (d := dOf "_law_word" s__law_word) rfl) (fun _ _ _ _ _ _ us hl => match us, hl with | [_], _ => rfl)
  obtain ⟨f__law_unknown_errors_hold, fd__law_unknown_errors_hold, D__law_unknown_errors_hold, B__law_unknown_errors_hold⟩ := defF_of (x := "_law_unknown_errors_hold") (st := s__law_unknown_errors_hold) (ps := ["box"]) X G (c0.fact 42 (f := .glo "_law_unknown_errors_hold") rfl) (c2.def_ 2 (d := dOf "_law_unknown_errors_hold" s__law_unknown_errors_hold) rfl) (fun _ _ _ _ _ _ us hl => match us, hl with | [_], _ => rfl)
  obtain ⟨f__law_named_errors_hold, fd__law_named_errors_hold, D__law_named_errors_hold, B__law_named_errors_hold⟩ := defF_of (x := "_law_named_errors_hold") (st := s__law_named_errors_hold) (ps := ["box"]) X G (c0.fact 43 (f := .glo "_law_named_errors_hold") rfl) (c2.def_ 3 (d := dOf "_law_named_errors_hold" s__law_named_errors_hold) rfl) (fun _ _ _ _ _ _ us hl => match us, hl with | [_], _ => rfl)
  obtain ⟨f__law_tuple_errors_hold, fd__law_tuple_errors_hold, D__law_tuple_errors_hold, B__law_tuple_errors_hold⟩ := defF_of (x := "_law_tuple_errors_hold") (st := s__law_tuple_errors_hold) (ps := ["box"]) X G (c0.fact 44 (f := .glo "_law_tuple_errors_hold") rfl) (c2.def_ 4 (d := dOf "_law_tuple_errors_hold" s__law_tuple_errors_hold) rfl) (fun _ _ _ _ _ _ us hl => match us, hl with | [_], _ => rfl)
  obtain ⟨f__law_errors_hold, fd__law_errors_hold, D__law_errors_hold, B__law_errors_hold⟩ := defF_of (x := "_law_errors_hold") (st := s__law_errors_hold) (ps := ["box"]) X G (c0.fact 45 (f := .glo "_law_errors_hold") rfl) (c2.def_ 5 (d := dOf "_law_errors_hold" s__law_errors_hold) rfl) (fun _ _ _ _ _ _ us hl => match us, hl with | [_], _ => rfl)
  obtain ⟨f_law, fd_law, D_law, B_law⟩ := defF_of (x := "law") (st := s_law) (ps := ["script"]) X G (c0.fact 46 (f := .glo "law") rfl) (c2.def_ 6 (d := dOf "law" s_law) rfl) (fun _ _ _ _ _ _ us hl => match us, hl with | [_], _ => rfl)
  have z_len := He.free_ok X G (c0.fact 47 (f := .free "len") rfl)
  have z_tuple := He.free_ok X G (c0.fact 48 (f := .free "tuple") rfl)
  have z_int := He.free_ok X G (c0.fact 49 (f := .free "int") rfl)
  have z_bool := He.free_ok X G (c0.fact 50 (f := .free "bool") rfl)
  have z_range := He.free_ok X G (c0.fact 51 (f := .free "range") rfl)
  have z_isinstance := He.free_ok X G (c0.fact 52 (f := .free "isinstance") rfl)
  have z_abs := He.free_ok X G (c0.fact 53 (f := .free "abs") rfl)
  have z_min := He.free_ok X G (c0.fact 54 (f := .free "min") rfl)
  have z_str := He.free_ok X G (c0.fact 55 (f := .free "str") rfl)
  have z_ValueError := He.free_ok X G (c0.fact 56 (f := .free "ValueError") rfl)
  have T : Txt mg := ⟨z_len, z_tuple, z_int, z_bool, z_range, z_isinstance, z_abs, z_min⟩
  obtain ⟨e_0, r_0⟩ := He.ba e
  obtain ⟨e_1, r_1⟩ := He.ba r_0
  obtain ⟨e_2, r_2⟩ := He.ba r_1
  obtain ⟨e_3, r_3⟩ := He.ba r_2
  obtain ⟨e_4, r_4⟩ := He.ba r_3
  have e_5 := r_4
  have BE := baseB_ok X G e_0
  have KE_DivisionByZero := kindB_ok X G (x := "DivisionByZero") (all_at e_1 0 rfl)
  have KE_ZeroPolynomial := kindB_ok X G (x := "ZeroPolynomial") (all_at e_1 1 rfl)
  have KE_HasQuantifier := kindB_ok X G (x := "HasQuantifier") (all_at e_1 2 rfl)
  have KE_NotOneUnknown := kindB_ok X G (x := "NotOneUnknown") (all_at e_1 3 rfl)
  have KE_NothingToUndo := kindB_ok X G (x := "NothingToUndo") (all_at e_1 4 rfl)
  have KE_InvalidPoly := kindB_ok X G (x := "InvalidPoly") (all_at e_1 5 rfl)
  have KE_InvalidStretch := kindB_ok X G (x := "InvalidStretch") (all_at e_1 6 rfl)
  have KE_InvalidText := kindB_ok X G (x := "InvalidText") (all_at e_1 7 rfl)
  have KE_InvalidUnknown := kindB_ok X G (x := "InvalidUnknown") (all_at e_1 8 rfl)
  have KE_NoUnknown := kindB_ok X G (x := "NoUnknown") (all_at e_1 9 rfl)
  have KE_HasFree := kindB_ok X G (x := "HasFree") (all_at e_1 10 rfl)
  have KE_Reducible := kindB_ok X G (x := "Reducible") (all_at e_1 11 rfl)
  have KE_NoRoot := kindB_ok X G (x := "NoRoot") (all_at e_1 12 rfl)
  have KE_InvalidCode := kindB_ok X G (x := "InvalidCode") (all_at e_1 13 rfl)
  have KE_TooDeep := kindB_ok X G (x := "TooDeep") (all_at e_1 14 rfl)
  have KE_TooLarge := kindB_ok X G (x := "TooLarge") (all_at e_1 15 rfl)
  have KE_InvalidPiece := kindB_ok X G (x := "InvalidPiece") (all_at e_1 16 rfl)
  have KE_NoPiece := kindB_ok X G (x := "NoPiece") (all_at e_1 17 rfl)
  have KE_InvalidSpot := kindB_ok X G (x := "InvalidSpot") (all_at e_1 18 rfl)
  have KE_Vanishes := kindB_ok X G (x := "Vanishes") (all_at e_1 19 rfl)
  have KE_NoCell := kindB_ok X G (x := "NoCell") (all_at e_1 20 rfl)
  have KE_InvalidLine := kindB_ok X G (x := "InvalidLine") (all_at e_1 21 rfl)
  have KE_InvalidSave := kindB_ok X G (x := "InvalidSave") (all_at e_1 22 rfl)
  have KE_InvalidName := kindB_ok X G (x := "InvalidName") (all_at e_1 23 rfl)
  have KE_Missing := kindB_ok X G (x := "Missing") (all_at e_1 24 rfl)
  have KE_Circular := kindB_ok X G (x := "Circular") (all_at e_1 25 rfl)
  have KE_NotASentence := kindB_ok X G (x := "NotASentence") (all_at e_1 26 rfl)
  have X_DivisionByZero := excB_ok KE_DivisionByZero (all_at e_2 0 rfl)
  have X_ZeroPolynomial := excB_ok KE_ZeroPolynomial (all_at e_2 1 rfl)
  have X_HasQuantifier := excB_ok KE_HasQuantifier (all_at e_2 2 rfl)
  have X_NotOneUnknown := excB_ok KE_NotOneUnknown (all_at e_2 3 rfl)
  have X_NothingToUndo := excB_ok KE_NothingToUndo (all_at e_2 4 rfl)
  have X_InvalidPoly := excB_ok KE_InvalidPoly (all_at e_2 5 rfl)
  have OI_InvalidStretch := ownB_ok (q := "InvalidStretch.__init__") (st := si_InvalidStretch) (ps := ["self", "low", "high"]) KE_InvalidStretch (all_at e_3 0 rfl) (c2.def_ 7 (d := dIn "InvalidStretch" "InvalidStretch.__init__" si_InvalidStretch) rfl) (fun _ _ _ _ _ _ us hl => match us, hl with | [_, _, _], _ => rfl)
  have NA_InvalidStretch_low := noat_ok (c0.fact 57 (f := .noat "InvalidStretch" "low") rfl)
  have NA_InvalidStretch_high := noat_ok (c0.fact 58 (f := .noat "InvalidStretch" "high") rfl)
  have OI_InvalidText := ownB_ok (q := "InvalidText.__init__") (st := si_InvalidText) (ps := ["self", "at"]) KE_InvalidText (all_at e_3 1 rfl) (c2.def_ 8 (d := dIn "InvalidText" "InvalidText.__init__" si_InvalidText) rfl) (fun _ _ _ _ _ _ us hl => match us, hl with | [_, _], _ => rfl)
  have NA_InvalidText_at := noat_ok (c0.fact 59 (f := .noat "InvalidText" "at") rfl)
  have OI_InvalidUnknown := ownB_ok (q := "InvalidUnknown.__init__") (st := si_InvalidUnknown) (ps := ["self", "unknown"]) KE_InvalidUnknown (all_at e_3 2 rfl) (c2.def_ 9 (d := dIn "InvalidUnknown" "InvalidUnknown.__init__" si_InvalidUnknown) rfl) (fun _ _ _ _ _ _ us hl => match us, hl with | [_, _], _ => rfl)
  have NA_InvalidUnknown_unknown := noat_ok (c0.fact 60 (f := .noat "InvalidUnknown" "unknown") rfl)
  have OI_NoUnknown := ownB_ok (q := "NoUnknown.__init__") (st := si_NoUnknown) (ps := ["self", "unknown"]) KE_NoUnknown (all_at e_3 3 rfl) (c2.def_ 10 (d := dIn "NoUnknown" "NoUnknown.__init__" si_NoUnknown) rfl) (fun _ _ _ _ _ _ us hl => match us, hl with | [_, _], _ => rfl)
  have NA_NoUnknown_unknown := noat_ok (c0.fact 61 (f := .noat "NoUnknown" "unknown") rfl)
  have OI_HasFree := ownB_ok (q := "HasFree.__init__") (st := si_HasFree) (ps := ["self", "unknown"]) KE_HasFree (all_at e_3 4 rfl) (c2.def_ 11 (d := dIn "HasFree" "HasFree.__init__" si_HasFree) rfl) (fun _ _ _ _ _ _ us hl => match us, hl with | [_, _], _ => rfl)
  have NA_HasFree_unknown := noat_ok (c0.fact 62 (f := .noat "HasFree" "unknown") rfl)
  have OI_Reducible := ownB_ok (q := "Reducible.__init__") (st := si_Reducible) (ps := ["self", "row"]) KE_Reducible (all_at e_3 5 rfl) (c2.def_ 12 (d := dIn "Reducible" "Reducible.__init__" si_Reducible) rfl) (fun _ _ _ _ _ _ us hl => match us, hl with | [_, _], _ => rfl)
  have NA_Reducible_row := noat_ok (c0.fact 63 (f := .noat "Reducible" "row") rfl)
  have OI_NoRoot := ownB_ok (q := "NoRoot.__init__") (st := si_NoRoot) (ps := ["self", "which"]) KE_NoRoot (all_at e_3 6 rfl) (c2.def_ 13 (d := dIn "NoRoot" "NoRoot.__init__" si_NoRoot) rfl) (fun _ _ _ _ _ _ us hl => match us, hl with | [_, _], _ => rfl)
  have NA_NoRoot_which := noat_ok (c0.fact 64 (f := .noat "NoRoot" "which") rfl)
  have OI_InvalidCode := ownB_ok (q := "InvalidCode.__init__") (st := si_InvalidCode) (ps := ["self", "at"]) KE_InvalidCode (all_at e_3 7 rfl) (c2.def_ 14 (d := dIn "InvalidCode" "InvalidCode.__init__" si_InvalidCode) rfl) (fun _ _ _ _ _ _ us hl => match us, hl with | [_, _], _ => rfl)
  have NA_InvalidCode_at := noat_ok (c0.fact 65 (f := .noat "InvalidCode" "at") rfl)
  have OI_TooDeep := ownB_ok (q := "TooDeep.__init__") (st := si_TooDeep) (ps := ["self", "product"]) KE_TooDeep (all_at e_3 8 rfl) (c2.def_ 15 (d := dIn "TooDeep" "TooDeep.__init__" si_TooDeep) rfl) (fun _ _ _ _ _ _ us hl => match us, hl with | [_, _], _ => rfl)
  have NA_TooDeep_product := noat_ok (c0.fact 66 (f := .noat "TooDeep" "product") rfl)
  have OI_TooLarge := ownB_ok (q := "TooLarge.__init__") (st := si_TooLarge) (ps := ["self", "what"]) KE_TooLarge (all_at e_3 9 rfl) (c2.def_ 16 (d := dIn "TooLarge" "TooLarge.__init__" si_TooLarge) rfl) (fun _ _ _ _ _ _ us hl => match us, hl with | [_, _], _ => rfl)
  have NA_TooLarge_what := noat_ok (c0.fact 67 (f := .noat "TooLarge" "what") rfl)
  have OI_InvalidPiece := ownB_ok (q := "InvalidPiece.__init__") (st := si_InvalidPiece) (ps := ["self", "which"]) KE_InvalidPiece (all_at e_3 10 rfl) (c2.def_ 17 (d := dIn "InvalidPiece" "InvalidPiece.__init__" si_InvalidPiece) rfl) (fun _ _ _ _ _ _ us hl => match us, hl with | [_, _], _ => rfl)
  have NA_InvalidPiece_which := noat_ok (c0.fact 68 (f := .noat "InvalidPiece" "which") rfl)
  have OI_NoPiece := ownB_ok (q := "NoPiece.__init__") (st := si_NoPiece) (ps := ["self", "which"]) KE_NoPiece (all_at e_3 11 rfl) (c2.def_ 18 (d := dIn "NoPiece" "NoPiece.__init__" si_NoPiece) rfl) (fun _ _ _ _ _ _ us hl => match us, hl with | [_, _], _ => rfl)
  have NA_NoPiece_which := noat_ok (c0.fact 69 (f := .noat "NoPiece" "which") rfl)
  have OI_InvalidSpot := ownB_ok (q := "InvalidSpot.__init__") (st := si_InvalidSpot) (ps := ["self", "level"]) KE_InvalidSpot (all_at e_3 12 rfl) (c2.def_ 19 (d := dIn "InvalidSpot" "InvalidSpot.__init__" si_InvalidSpot) rfl) (fun _ _ _ _ _ _ us hl => match us, hl with | [_, _], _ => rfl)
  have NA_InvalidSpot_level := noat_ok (c0.fact 70 (f := .noat "InvalidSpot" "level") rfl)
  have OI_Vanishes := ownB_ok (q := "Vanishes.__init__") (st := si_Vanishes) (ps := ["self", "level"]) KE_Vanishes (all_at e_3 13 rfl) (c2.def_ 20 (d := dIn "Vanishes" "Vanishes.__init__" si_Vanishes) rfl) (fun _ _ _ _ _ _ us hl => match us, hl with | [_, _], _ => rfl)
  have NA_Vanishes_level := noat_ok (c0.fact 71 (f := .noat "Vanishes" "level") rfl)
  have OI_NoCell := ownB_ok (q := "NoCell.__init__") (st := si_NoCell) (ps := ["self", "cell"]) KE_NoCell (all_at e_3 14 rfl) (c2.def_ 21 (d := dIn "NoCell" "NoCell.__init__" si_NoCell) rfl) (fun _ _ _ _ _ _ us hl => match us, hl with | [_, _], _ => rfl)
  have NA_NoCell_cell := noat_ok (c0.fact 72 (f := .noat "NoCell" "cell") rfl)
  have OI_InvalidLine := ownB_ok (q := "InvalidLine.__init__") (st := si_InvalidLine) (ps := ["self", "line"]) KE_InvalidLine (all_at e_3 15 rfl) (c2.def_ 22 (d := dIn "InvalidLine" "InvalidLine.__init__" si_InvalidLine) rfl) (fun _ _ _ _ _ _ us hl => match us, hl with | [_, _], _ => rfl)
  have NA_InvalidLine_line := noat_ok (c0.fact 73 (f := .noat "InvalidLine" "line") rfl)
  have OI_InvalidSave := ownB_ok (q := "InvalidSave.__init__") (st := si_InvalidSave) (ps := ["self", "line"]) KE_InvalidSave (all_at e_3 16 rfl) (c2.def_ 23 (d := dIn "InvalidSave" "InvalidSave.__init__" si_InvalidSave) rfl) (fun _ _ _ _ _ _ us hl => match us, hl with | [_, _], _ => rfl)
  have NA_InvalidSave_line := noat_ok (c0.fact 74 (f := .noat "InvalidSave" "line") rfl)
  have OI_InvalidName := ownB_ok (q := "InvalidName.__init__") (st := si_InvalidName) (ps := ["self", "name"]) KE_InvalidName (all_at e_3 17 rfl) (c2.def_ 24 (d := dIn "InvalidName" "InvalidName.__init__" si_InvalidName) rfl) (fun _ _ _ _ _ _ us hl => match us, hl with | [_, _], _ => rfl)
  have NA_InvalidName_name := noat_ok (c0.fact 75 (f := .noat "InvalidName" "name") rfl)
  have OI_Missing := ownB_ok (q := "Missing.__init__") (st := si_Missing) (ps := ["self", "name"]) KE_Missing (all_at e_3 18 rfl) (c2.def_ 25 (d := dIn "Missing" "Missing.__init__" si_Missing) rfl) (fun _ _ _ _ _ _ us hl => match us, hl with | [_, _], _ => rfl)
  have NA_Missing_name := noat_ok (c0.fact 76 (f := .noat "Missing" "name") rfl)
  have OI_Circular := ownB_ok (q := "Circular.__init__") (st := si_Circular) (ps := ["self", "name"]) KE_Circular (all_at e_3 19 rfl) (c2.def_ 26 (d := dIn "Circular" "Circular.__init__" si_Circular) rfl) (fun _ _ _ _ _ _ us hl => match us, hl with | [_, _], _ => rfl)
  have NA_Circular_name := noat_ok (c0.fact 77 (f := .noat "Circular" "name") rfl)
  have OI_NotASentence := ownB_ok (q := "NotASentence.__init__") (st := si_NotASentence) (ps := ["self", "name"]) KE_NotASentence (all_at e_3 20 rfl) (c2.def_ 27 (d := dIn "NotASentence" "NotASentence.__init__" si_NotASentence) rfl) (fun _ _ _ _ _ _ us hl => match us, hl with | [_, _], _ => rfl)
  have NA_NotASentence_name := noat_ok (c0.fact 78 (f := .noat "NotASentence" "name") rfl)
  have m_gcd := bltB_ok X G e_4
  -- more
  obtain ⟨u1, u2⟩ := He.ba e_5
  have ET := errT_of BE (.cons KE_DivisionByZero (.cons KE_ZeroPolynomial (.cons KE_HasQuantifier (.cons KE_NotOneUnknown (.cons KE_NothingToUndo (.cons KE_InvalidPoly (.cons KE_InvalidStretch (.cons KE_InvalidText (.cons KE_InvalidUnknown (.cons KE_NoUnknown (.cons KE_HasFree (.cons KE_Reducible (.cons KE_NoRoot (.cons KE_InvalidCode (.cons KE_TooDeep (.cons KE_TooLarge (.cons KE_InvalidPiece (.cons KE_NoPiece (.cons KE_InvalidSpot (.cons KE_Vanishes (.cons KE_NoCell (.cons KE_InvalidLine (.cons KE_InvalidSave (.cons KE_InvalidName (.cons KE_Missing (.cons KE_Circular (.cons KE_NotASentence .nil))))))))))))))))))))))))))) (of_decide_eq_true u1) (not_in u2)
  have eD := KE_DivisionByZero.exm
  have e0 := hfa.symm.trans D_law.mgf
  cases e0
  exact ⟨fd_law, fun s v => B_law s [v] rfl, fun base _ _ => all_law (T := T) (z_str := z_str) (z_ValueError := z_ValueError) (m_gcd := m_gcd) (ET := ET) (eD := eD) (X_DivisionByZero := X_DivisionByZero) (X_ZeroPolynomial := X_ZeroPolynomial) (X_HasQuantifier := X_HasQuantifier) (X_NotOneUnknown := X_NotOneUnknown) (X_NothingToUndo := X_NothingToUndo) (X_InvalidPoly := X_InvalidPoly) (OI_InvalidStretch := OI_InvalidStretch) (NA_InvalidStretch_low := NA_InvalidStretch_low) (NA_InvalidStretch_high := NA_InvalidStretch_high) (OI_InvalidText := OI_InvalidText) (NA_InvalidText_at := NA_InvalidText_at) (OI_InvalidUnknown := OI_InvalidUnknown) (NA_InvalidUnknown_unknown := NA_InvalidUnknown_unknown) (OI_NoUnknown := OI_NoUnknown) (NA_NoUnknown_unknown := NA_NoUnknown_unknown) (OI_HasFree := OI_HasFree) (NA_HasFree_unknown := NA_HasFree_unknown) (OI_Reducible := OI_Reducible) (NA_Reducible_row := NA_Reducible_row) (OI_NoRoot := OI_NoRoot) (NA_NoRoot_which := NA_NoRoot_which) (OI_InvalidCode := OI_InvalidCode) (NA_InvalidCode_at := NA_InvalidCode_at) (OI_TooDeep := OI_TooDeep) (NA_TooDeep_product := NA_TooDeep_product) (OI_TooLarge := OI_TooLarge) (NA_TooLarge_what := NA_TooLarge_what) (OI_InvalidPiece := OI_InvalidPiece) (NA_InvalidPiece_which := NA_InvalidPiece_which) (OI_NoPiece := OI_NoPiece) (NA_NoPiece_which := NA_NoPiece_which) (OI_InvalidSpot := OI_InvalidSpot) (NA_InvalidSpot_level := NA_InvalidSpot_level) (OI_Vanishes := OI_Vanishes) (NA_Vanishes_level := NA_Vanishes_level) (OI_NoCell := OI_NoCell) (NA_NoCell_cell := NA_NoCell_cell) (OI_InvalidLine := OI_InvalidLine) (NA_InvalidLine_line := NA_InvalidLine_line) (OI_InvalidSave := OI_InvalidSave) (NA_InvalidSave_line := NA_InvalidSave_line) (OI_InvalidName := OI_InvalidName) (NA_InvalidName_name := NA_InvalidName_name) (OI_Missing := OI_Missing) (NA_Missing_name := NA_Missing_name) (OI_Circular := OI_Circular) (NA_Circular_name := NA_Circular_name) (OI_NotASentence := OI_NotASentence) (NA_NotASentence_name := NA_NotASentence_name) (D_sign_of := D_sign_of) (D_compare := D_compare) (D_floor := D_floor) (D__law_is_integer := D__law_is_integer) (D__law_same := D__law_same) (D__law_cell := D__law_cell) (D__law_box := D__law_box) (D__law_take := D__law_take) (D__law_turned := D__law_turned) (D__law_power := D__law_power) (D__law_limbs := D__law_limbs) (D__law_gcd := D__law_gcd) (D__law_lowest := D__law_lowest) (D__law_long := D__law_long) (D__law_number := D__law_number) (D_fraction := D_fraction) (D_plus := D_plus) (D_minus := D_minus) (D_times := D_times) (D_over := D_over) (D_bezout := D_bezout) (D__law_bezout_holds := D__law_bezout_holds) (D__law_two := D__law_two) (D__law_pair := D__law_pair) (D__law_order_holds := D__law_order_holds) (D__law_floor_holds := D__law_floor_holds) (D__law_due := D__law_due) (D__law_done := D__law_done) (D__law_number_is := D__law_number_is) (D__law_kinds := D__law_kinds) (D__law_alone := D__law_alone) (D__law_word_is := D__law_word_is) (D__law_fraction_holds := D__law_fraction_holds) (D__law_over_refused := D__law_over_refused) (D__law_sums_hold := D__law_sums_hold) (D__law_two_hold := D__law_two_hold) (D__law_beside := D__law_beside) (D__law_run_holds := D__law_run_holds) (D__law_plain_errors_hold := D__law_plain_errors_hold) (D__law_numbered_errors_hold := D__law_numbered_errors_hold) (D__law_lines_hold := D__law_lines_hold) (D__law_word := D__law_word) (D__law_unknown_errors_hold := D__law_unknown_errors_hold) (D__law_named_errors_hold := D__law_named_errors_hold) (D__law_tuple_errors_hold := D__law_tuple_errors_hold) (D__law_errors_hold := D__law_errors_hold) (D_law := D_law)⟩
end My
open PySem PySem.W PySem.Calls PyProof.Rows
theorem PySem.Challenge.cw_cellspire_k00_bezout_and_fractions_holds : PySem.Challenge.rw_cellspire_k00_bezout_and_fractions.Holds := by
  w_on; o_law
  refine HandSHeadRun.head_imp (r := OpenLaw.row PySem.Challenge.rw_cellspire_k00_bezout_and_fractions) (q := view (OpenLaw.row PySem.Challenge.rw_cellspire_k00_bezout_and_fractions).prog [0, 78]) (H := MyH.hk) (ob := fun s => My.obsP MyH.as_ MyH.ps_ MyH.ex (HandSHeadRun.getT s)) (M := 20000) (loose := MyH.loose) (d := HandSHeadRun.topDef (OpenLaw.row PySem.Challenge.rw_cellspire_k00_bezout_and_fractions).prog 78) (kwd := []) MyH.ob_eq
    MyH.run (by kernel_rfl) (by kernel_rfl) (by kernel_rfl) (by rfl) (by first | assumption | decide +kernel) (by decide +kernel) ⟨rfl, rfl, rfl, rfl, rfl, by decide +kernel⟩ ?hw ?hc
  case hw => w_witness2
  case hc =>
    refine My.walk_own (l := PySem.Challenge.rw_cellspire_k00_bezout_and_fractions) (n := 63) (k := 8) (x := "script") (CX := fun w => L2.CX (PySem.Challenge.rw_cellspire_k00_bezout_and_fractions).prog w) rfl (by decide) (by kernel_rfl) ⟨rfl, by decide, by decide⟩ ?F (fun _ _ _ _ _ h => My.cx_no h)
    intro w mg fa h Y G hmg0
    obtain ⟨K, KX, c, e⟩ := Y
    have hmg : mg ("law" : PySem.Str) = some (.ref fa) := by
      have e1 : (HandSHeadRun.topDef (OpenLaw.row PySem.Challenge.rw_cellspire_k00_bezout_and_fractions).prog 78).name = ("law" : PySem.Str) := by kernel_rfl
      rw [← e1]
      exact hmg0
    obtain ⟨fd, hb, hF⟩ := My.facts (P := (PySem.Challenge.rw_cellspire_k00_bezout_and_fractions).prog) (w := w) KX G hmg c e
    exact ⟨K, fd, My.sp_law K, KX, hb, fun H a ns hl _ hS => ⟨a, ns, rfl, hS, hl, fun _ => rfl⟩, hF⟩
