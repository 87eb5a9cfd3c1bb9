import PyProof.Rows.All
import Wide.All
import OpenK.AllK
import Wide.FinOn
import KE.KStateDown
import HandS.Words
import HandS.Head0
import HandS.Head1
import HandS.Head2
import HandS.Head3
import HandS.HeadEnd
import HandS.HeadHook1
import HandS.HeadHook2
import HandS.ForMost
import HandS.ForExc
import HandS.Wide
import HandS.WideBits
import HandS.TupAny
import HandS.Rev
import HandS.Walk
import HandS.IsInst
import HandS.ExcIs
import HandS.Small
import HandS.Gcd
import HandS.Defaults
import HandS.Evl
import KE.GoesMore
import KE.RegKIsAll
import HandS.ExcInit
import HandS.ExcInitHot
import HandS.ExcField
import HandS.HotCalls
import HandS.ExcCtx
import KE.KExcIs
import HandS.ExcValue
import HandS.Text
import HandS.Codes
import HandS.StrMore
import HandS.Flow
import PyProof.Rows.StrPadWhole
import KE.KIntText
import HandS.Steps
import PySem.Challenge.RW_cellspire_k02_decimals_texts_and_stretch
set_option Elab.async false
set_option linter.all false
set_option maxRecDepth 100000
set_option maxHeartbeats 4000000
/-! the head read by a Hook, in parts; what is looked at -/
namespace My
open PySem PySem.Spec PyProof.Rows L2
/-! ### the Hook: facts of defs and names in parts, each looked at by a run of its own, and a look of one's own; over written addresses -/
abbrev Pt : Type := List He.Fa × List He.DefD
abbrev Pt.ob (as : List Addr) (p : Pt) (g : Addr → Option Obj) : He.AlD := He.obsD p.1 p.2 (He.frG g as)
theorem map_eqs {α β : Type} {f v : α → β} {l : List α} (h : l.map f = l.map v) {p : α} (m : p ∈ l) : f p = v p := by
  induction l with
  | nil => cases m
  | cons a l ih =>
    rw [List.map_cons, List.map_cons] at h
    injection h with h1 h2
    rcases List.mem_cons.mp m with rfl | m
    · exact h1
    · exact ih h2 m
def obsP (as : List Addr) (ps : List Pt) (ex : PySem.W.Frag → Bool) (g : Addr → Option Obj) : List He.AlD × Bool := (ps.map fun p => p.ob as g, ex (He.frG g as))
def hookP (as : List Addr) (ps : List Pt) (ex : PySem.W.Frag → Bool) : PySem.W.Hook where
  α := List He.AlD × Bool
  obs := fun s => obsP as ps ex s.heap.get?
  val := fun _ => (ps.map fun p : Pt => He.valD p.2, true)
  says := fun _ h => ∃ K : PySem.W.Frag, K.In h ∧ (∀ p ∈ ps, He.SaysD p.1 p.2 K) ∧ ex K = true
  of := fun _ s e => ⟨He.frG s.heap.get? as, He.frG_in, fun p m => map_eqs (f := fun p : Pt => p.ob as s.heap.get?) (v := fun p : Pt => He.valD p.2) (congrArg Prod.fst e) m, congrArg Prod.snd e⟩
  keeps := by
    intro _ _ _ ⟨K, hK, c⟩ k
    exact ⟨K, hK.keeps k, c⟩
theorem obsP_eq {as : List Addr} {ps : List Pt} {ex : PySem.W.Frag → Bool} {g : Addr → Option Obj} {s : Shared} (h : ∀ a, g a = s.heap.get? a) : obsP as ps ex g = (hookP as ps ex).obs s := by
  have : g = s.heap.get? := by
    funext a
    exact h a
  subst this
  rfl
/-- a run that shows v -/
abbrev hv {α : Type} (v : α) : PySem.W.Hook := ⟨α, fun _ => v, fun _ => v, fun _ _ => True, fun _ _ _ => trivial, fun _ _ _ _ _ => trivial⟩
theorem opt_all {X A B α γ : Type} {o : Option X} {L : X → A} {S : X → B} {l : A} {b : B} {ps : List γ} {f : γ → X → α} {v : γ → α} {e : X → Bool} (a : ∀ p ∈ ps, o.map (fun x => (L x, S x, f p x)) = some (l, b, v p))
    (c : o.map (fun x => (L x, S x, e x)) = some (l, b, true)) : o.map (fun x => (L x, S x, (ps.map fun p => f p x, e x))) = some (l, b, (ps.map v, true)) := by
  cases o with
  | none => cases c
  | some x =>
    rw [Option.map_some] at c ⊢
    injection c with c
    injection c with c1 c2
    injection c2 with c2 c3
    rw [c1, c2, c3]
    have : (ps.map fun p => f p x) = ps.map v := List.map_congr_left fun p m => by
      have z := a p m
      rw [Option.map_some] at z
      injection z with z
      injection z with z1 z2
      injection z2
    rw [this]
theorem runs {r : PySem.W.OpenRow} {q : Program} {M : Nat} {loose : List Str} {w : World} {as : List Addr} {ps : List Pt} {ex : PySem.W.Frag → Bool}
    (a : ∀ p ∈ ps, HandSHeadRun.RunEqI r q (hv (He.valD p.2)) (fun s => p.ob as (HandSHeadRun.getT s)) M loose w) (c : HandSHeadRun.RunEqI r q (hv true) (fun s => ex (He.frG (HandSHeadRun.getT s) as)) M loose w) :
    HandSHeadRun.RunEqI r q (hookP as ps ex) (fun s => obsP as ps ex (HandSHeadRun.getT s)) M loose w := by
  unfold HandSHeadRun.RunEqI at a c ⊢
  exact opt_all (γ := Pt) (X := Shared × PySem.W.SharedT) (f := fun p x => p.ob as (HandSHeadRun.getT x.2)) (v := fun p => He.valD p.2) (e := fun x => ex (He.frG (HandSHeadRun.getT x.2) as)) a c
theorem all_mem {α : Type} {p : α → Prop} {ps : List α} (h : ∀ a ∈ ps, p a) (i : Nat) {a : α} (e : ps[i]? = some a := by rfl) : p a := h a (List.mem_of_getElem? e)
/-- a def of the top -/
abbrev dOf (x : Str) (st : Stmt) : He.DefD := ⟨(x, none), x, x, defArgs st, defBody st, defScope st, [], []⟩
abbrev dIn (C q : Str) (st : Stmt) : He.DefD := ⟨(C, some "__init__"), "__init__", q, defArgs st, defBody st, defScope st, [], []⟩
abbrev gE (K : PySem.W.Frag) : Addr := He.ga K "CellspireError"
def baseB (K : PySem.W.Frag) : Bool := (He.Fa.glo "CellspireError").ok K && ((PySem.W.clsIn K (gE K)).isSome && decide (PySem.W.typeIn K (.ref (gE K)) = some (.type "type")))
def slB : List (Option Value) → Bool
  | [_, _, _, _, some (.builtin n), _] => decide (n = "ValueError.__new__")
  | _ => false
def clsB (C E : Addr) : Obj → Bool
  | ⟨.type t, _, .cls cd, sl⟩ => decide (t = "type") && (decide (cd.mro = [.ref C, .ref E, .type "ValueError", .type "Exception", .type "BaseException", .type "object"]) && (cd.hasDict && (!cd.hasDel && slB sl.toList)))
  | _ => false
def kindB (K : PySem.W.Frag) (x : Str) : Bool := (He.Fa.glo x).ok K && ((match K.lookup (He.ga K x) with
    | some o => clsB (He.ga K x) (gE K) o
    | none => false) && (decide (PySem.W.typeIn K (.ref (He.ga K x)) = some (.type "type")) && (He.eqO (PySem.W.findIn K (.ref (He.ga K x)) "__getattribute__") (some (some (.builtin "BaseException.__getattribute__"))) && (He.eqO (PySem.W.findIn K (.ref (He.ga K x)) "__getattr__") (some none) &&
    (decide (PySem.W.subIn K (.ref (He.ga K x)) (.type "BaseException") = some true) && (PySem.W.hasDictIn K (He.ga K x) && (He.eqO (PySem.W.findIn K (.ref (He.ga K x)) "__class__") (some (some (.builtin "object.__class__"))) && (He.eqO (PySem.W.specialIn K (.builtin "object.__class__") "__get__") (some (some (.builtin "getset_descriptor.__get__"))) &&
    (decide (PySem.W.takesIn K (.builtin "object.__class__") = some true) && decide (PySem.W.mroIn K (He.ga K x) (.type "object") = some true))))))))))
def excB (K : PySem.W.Frag) (x : Str) : Bool := PySem.W.excIn K (He.ga K x) [.type "ValueError", .type "Exception", .type "BaseException", .type "object"] "ValueError.__new__" && PySem.W.keepIn K (.ref (He.ga K x))
def ownB (K : PySem.W.Frag) (x : Str) : Bool := He.eqO (PySem.W.findIn K (.ref (He.ga K x)) "__setattr__") (some (some (.builtin "object.__setattr__"))) && (PySem.W.keepIn K (.ref (He.ga K x)) && (He.eqO (PySem.W.findIn K (.ref (He.ga K x)) "__init__") (some (some (.ref (He.fAd K (x, some "__init__"))))) &&
  decide (PySem.W.typeIn K (.ref (He.fAd K (x, some "__init__"))) = some (.type "function"))))
/-- the module's name x is this built-in -/
def bltB (K : PySem.W.Frag) (x : Str) (n : String) : Bool := He.eqO (PySem.W.nsIn K mainGlobals x) (some (some (.builtin n)))
end My
namespace MyH
open My PySem PySem.Spec PyProof.Rows L2
def topR (i : Nat) : Stmt := PySem.Challenge.pw_cellspire_k02_decimals_texts_and_stretch.main.body.getD i (.Pass ⟨0, 0, 0, 0⟩)
def fa0 : List He.Fa := [.glo "sign_of", .glo "compare", .glo "_law_is_integer", .glo "_law_same", .glo "_law_cell", .glo "_law_box", .glo "_law_take", .glo "_law_turned", .glo "_law_power", .glo "_law_limbs", .glo "_law_gcd", .glo "_law_lowest", .glo "_law_long", .glo "_law_number", .glo "fraction", .glo "plus", .glo "times", .glo "whole_power", .glo "_digits", .glo "_write_integer", .glo "write_fraction", .glo "_is_plain", .glo "decimal", .glo "read_fraction", .glo "_law_figures", .glo "_law_text", .glo "_law_reading", .glo "_law_text_holds", .glo "_law_writing_holds", .glo "_law_wrong_texts"]
def fa1 : List He.Fa := [.glo "_law_long_fraction", .glo "_law_sign", .glo "_law_bent", .glo "_law_texts_hold", .glo "_law_places", .glo "_law_decimal_holds", .glo "_law_decimals_hold", .glo "_law_less", .glo "stretch_plus", .glo "stretch_times", .glo "_law_stretch", .glo "_law_point", .glo "_law_due", .glo "_law_joined", .glo "_law_joined_holds", .glo "_law_stretches_hold", .glo "law", .free "len", .free "tuple", .free "int", .free "bool", .free "range", .free "isinstance", .free "abs", .free "min", .free "str", .free "ValueError", .free "divmod", .free "max", .noat "InvalidText" "at"]
def fa2 : List He.Fa := [.str "_DIGITS" "0123456789", .int "_RUN" 600]
def fa : List He.Fa := fa0 ++ (fa1 ++ (fa2))
def loose0 : List Str := ["CellspireError", "DivisionByZero", "InvalidStretch", "InvalidText", "_DIGITS", "_RUN", "sign_of", "whole_power", "fraction", "plus", "times", "compare", "_digits", "_write_integer", "decimal", "stretch_plus", "stretch_times", "write_fraction", "_is_plain", "read_fraction", "_law_is_integer", "_law_same", "_law_cell", "_law_box", "_law_take", "_law_turned", "_law_power", "_law_limbs", "_law_long", "_law_gcd"]
def loose1 : List Str := ["_law_lowest", "_law_number", "_law_less", "_law_places", "_law_figures", "_law_decimal_holds", "_law_decimals_hold", "_law_text", "_law_reading", "_law_text_holds", "_law_wrong_texts", "_law_long_fraction", "_law_sign", "_law_bent", "_law_writing_holds", "_law_texts_hold", "_law_stretch", "_law_point", "_law_due", "_law_joined", "_law_joined_holds", "_law_stretches_hold"]
def loose : List Str := loose0 ++ (loose1)
abbrev R : PySem.W.OpenRow := PySem.W.OpenLaw.row PySem.Challenge.rw_cellspire_k02_decimals_texts_and_stretch
def ex (K : PySem.W.Frag) : Bool := baseB K && ((["DivisionByZero", "InvalidStretch", "InvalidText"] : List Str).all (kindB K) && ((["DivisionByZero"] : List Str).all (excB K) && ((["InvalidText"] : List Str).all (ownB K) && (bltB K "gcd" "math.gcd" && (decide ((["DivisionByZero", "InvalidStretch", "InvalidText"] : List Str).map (He.ga K)).Nodup && !((["DivisionByZero", "InvalidStretch", "InvalidText"] : List Str).map (He.ga K)).contains (gE K))))))
def la0 : List Addr := [190, 191, 192, 193, 194, 195, 196, 197, 198, 199, 200, 201, 202, 203, 204, 205, 206, 207, 208, 209, 210, 211, 212, 213, 214, 215, 216, 217, 218, 219, 220, 221, 222, 223, 224, 225, 226, 227, 228, 229, 230, 231, 232, 233, 234, 235, 236, 237, 238, 239, 240, 241, 242, 243, 244, 245, 246, 247, 248, 249, 250, 251, 252, 253, 254, 255, 256, 257, 258, 259, 260, 261, 262, 263, 264, 265, 266, 267, 268, 269, 270, 271, 272, 273, 274, 275, 276, 277, 278, 279, 280, 281, 282, 283, 284, 285, 286, 287, 288, 289, 290, 291, 292, 293, 294, 295, 296, 297, 298, 299, 300, 301, 302, 303, 304, 305, 306, 307, 308, 309, 310, 311, 312, 313, 314, 315, 316, 317, 318, 319, 320, 321, 322, 323, 324, 325, 326, 327, 328, 329, 330, 331, 332, 333, 334, 335, 336, 337, 338, 339]
def la1 : List Addr := [340, 341, 342, 343, 344, 345, 346, 347, 348, 349, 350, 351, 352, 353, 354, 355, 356, 357, 358, 359, 360, 361, 362, 363, 364, 365, 366, 367, 368, 369, 370, 371, 372, 373, 374, 375, 376, 377, 378, 379, 380, 381, 382, 383, 384, 385, 386, 387, 388, 389, 390, 391, 392, 393, 394, 395, 396, 397, 398, 399, 400, 401, 402, 403, 404, 405, 406, 407, 408, 409, 410, 411, 412, 413, 414, 415, 416, 417, 418, 419, 420, 421, 422, 423, 424, 425, 426, 427, 428, 429, 430, 431, 432, 433, 434, 435, 436, 437, 438, 439, 440, 441, 442, 443, 444, 445, 446, 447, 448, 449, 450, 451, 452, 453, 454, 455, 456, 457, 458, 459, 460, 461, 462, 463, 464, 465, 466, 467, 468, 469, 470, 471, 472, 473, 474, 475, 476, 477, 478, 479, 480, 481, 482, 483, 484, 485, 486, 487, 488, 489]
def la2 : List Addr := [490, 491, 492, 493, 494, 495, 496, 497, 498, 499, 500, 501, 502, 503, 504, 505, 506, 507, 508, 509, 510, 511, 512, 513, 514, 515, 516, 517, 518, 519, 520, 521, 522, 523, 524, 525, 526, 527, 528, 529, 530, 531, 532, 533, 534, 535, 536, 537, 538, 539, 540, 541, 542, 543, 544, 545, 546, 547, 548, 549, 550, 551, 552, 553, 554, 555, 556, 557, 558, 559, 560, 561, 562, 563, 564, 565, 566, 567, 568, 569, 570, 571, 572, 573, 574, 575, 576, 577, 578, 579, 580, 581, 582, 583, 584, 585, 586, 587, 588, 589, 590, 591, 592, 593, 594, 595, 596, 597, 598, 599, 95, 96, 97, 98, 99, 100, 101, 102, 103, 104, 105, 106, 107, 108, 109, 110, 111, 112, 113, 114, 115, 116, 117, 118, 119, 120, 121, 122, 123, 124, 125, 126, 127, 128, 129, 130, 131, 132, 133, 134]
def la3 : List Addr := [135, 136, 137, 138, 139, 140, 141, 142, 143, 144, 145, 146, 147, 148, 149, 150, 151, 152, 153, 154, 155, 156, 157, 158, 159, 160, 161, 162, 163, 164, 165, 166, 167, 168, 169, 170, 171, 172, 173, 174, 175, 176, 177, 178, 179, 180, 181, 182, 183, 184, 185, 186, 187, 188, 189, 0, 1, 2, 3, 4, 5, 6, 7, 8, 9, 10, 11, 12, 13, 14, 15, 16, 17, 18, 19, 20, 21, 22, 23, 24, 25, 26, 27, 28, 29, 30, 31, 32, 33, 34, 35, 36, 37, 38, 39, 40, 41, 42, 43, 44, 45, 46, 47, 48, 49, 50, 51, 52, 53, 54, 55, 56, 57, 58, 59, 60, 61, 62, 63, 64, 65, 66, 67, 68, 69, 70, 71, 72, 73, 74, 75, 76, 77, 78, 79, 80, 81, 82, 83, 84, 85, 86, 87, 88, 89, 90, 91, 92, 93, 94]
def la : List Addr := la0 ++ (la1 ++ (la2 ++ (la3)))
def as_ : List Addr := mainGlobals :: la
def fp0 : List He.DefD := [dOf "sign_of" (topR 9), dOf "compare" (topR 14), dOf "_law_is_integer" (topR 24), dOf "_law_same" (topR 25), dOf "_law_cell" (topR 26), dOf "_law_box" (topR 27), dOf "_law_take" (topR 28), dOf "_law_turned" (topR 29), dOf "_law_power" (topR 30), dOf "_law_limbs" (topR 31), dOf "_law_gcd" (topR 33), dOf "_law_lowest" (topR 34), dOf "_law_long" (topR 32), dOf "_law_number" (topR 35), ⟨("fraction", none), "fraction", "fraction", defArgs (topR 11), defBody (topR 11), defScope (topR 11), [.int 1], []⟩, dOf "plus" (topR 12), dOf "times" (topR 13), dOf "whole_power" (topR 10), dOf "_digits" (topR 15), dOf "_write_integer" (topR 16), dOf "write_fraction" (topR 20), dOf "_is_plain" (topR 21), dOf "decimal" (topR 17), dOf "read_fraction" (topR 22), dOf "_law_figures" (topR 38), dOf "_law_text" (topR 41), dOf "_law_reading" (topR 42), dOf "_law_text_holds" (topR 43), dOf "_law_writing_holds" (topR 48), dOf "_law_wrong_texts" (topR 44), dOf "_law_long_fraction" (topR 45), dOf "_law_sign" (topR 46), dOf "_law_bent" (topR 47), dOf "_law_texts_hold" (topR 49), dOf "_law_places" (topR 37), dOf "_law_decimal_holds" (topR 39), dOf "_law_decimals_hold" (topR 40), dOf "_law_less" (topR 36), dOf "stretch_plus" (topR 18), dOf "stretch_times" (topR 19)]
def fp1 : List He.DefD := [dOf "_law_stretch" (topR 50), dOf "_law_point" (topR 51), dOf "_law_due" (topR 52), dOf "_law_joined" (topR 53), dOf "_law_joined_holds" (topR 54), dOf "_law_stretches_hold" (topR 55), dOf "law" (topR 56), dIn "InvalidText" "InvalidText.__init__" (inClass (topR 5) 0)]
abbrev ps_ : List Pt := [(fa, []), ([], fp0), ([], fp1)]
theorem run0 (w : World) : HandSHeadRun.RunEqI R (PySem.W.view R.prog [0, 56]) (hv (He.valD ((fa, []) : Pt).2)) (fun s => Pt.ob as_ (fa, []) (HandSHeadRun.getT s)) 20000 loose w := by
  unfold HandSHeadRun.RunEqI
  kernel_rfl
theorem run1 (w : World) : HandSHeadRun.RunEqI R (PySem.W.view R.prog [0, 56]) (hv (He.valD (([], fp0) : Pt).2)) (fun s => Pt.ob as_ ([], fp0) (HandSHeadRun.getT s)) 20000 loose w := by
  unfold HandSHeadRun.RunEqI
  kernel_rfl
theorem run2 (w : World) : HandSHeadRun.RunEqI R (PySem.W.view R.prog [0, 56]) (hv (He.valD (([], fp1) : Pt).2)) (fun s => Pt.ob as_ ([], fp1) (HandSHeadRun.getT s)) 20000 loose w := by
  unfold HandSHeadRun.RunEqI
  kernel_rfl
theorem runE (w : World) : HandSHeadRun.RunEqI R (PySem.W.view R.prog [0, 56]) (hv true) (fun s => ex (He.frG (HandSHeadRun.getT s) as_)) 20000 loose w := by
  unfold HandSHeadRun.RunEqI
  kernel_rfl
abbrev hk : PySem.W.Hook := hookP as_ ps_ ex
theorem ob_eq (s : PySem.W.SharedT) : obsP as_ ps_ ex (HandSHeadRun.getT s) = hk.obs s.abs := obsP_eq (HandSHeadRun.getT_eq s)
theorem run (w : World) : HandSHeadRun.RunEqI R (PySem.W.view R.prog [0, 56]) hk (fun s => obsP as_ ps_ ex (HandSHeadRun.getT s)) 20000 loose w :=
  runs (r := R) (q := (PySem.W.view R.prog [0, 56])) (M := 20000) (loose := loose) (w := w) (as := as_) (ps := ps_) (ex := ex) (List.forall_mem_cons.mpr ⟨run0 w,  (List.forall_mem_cons.mpr ⟨run1 w,  (List.forall_mem_cons.mpr ⟨run2 w, (fun _ m => nomatch m)⟩)⟩)⟩) (runE w)
end MyH
namespace My
open PySem PySem.Spec PyProof.Rows L2

/-! ### rules that were lacking: * and // of any size, enumerate over a tuple, a def called by its name -/
section
variable {X : Cx}
theorem op_mulG : OpR X (binaryOp .Mult) (rI IntMulOk fun i j => .int (i * j)) := opI fun _ _ _ _ _ _ _ hc q => mul_int q hc
def CDivG (_ j : Int) : Prop := j ≠ 0 ∧ j.natAbs.log2 < 9000
theorem op_fdivG : OpR X (binaryOp .FloorDiv) (rI CDivG fun i j => .int (i.fdiv j)) := opI fun i j _ _ _ _ _ hc q => floordiv_int hc.1 q (.inl (PyProof.noPylong_of_log2 hc.2))
end
theorem mul_ok_r {i j : Int} (h : j.natAbs < 2 ^ 63) : IntMulOk i j := CMul.ok (.inr ⟨by omega, by omega⟩)
theorem mul_ok_l {i j : Int} (h : i.natAbs < 2 ^ 63) : IntMulOk i j := CMul.ok (.inl ⟨by omega, by omega⟩)
theorem mul_ok {i j : Int} {a b : Nat} (ha : i.natAbs < 2 ^ a) (hb : j.natAbs < 2 ^ b) (h : a + b ≤ 134217728) : IntMulOk i j := CMulX.ok (mulx_ok ha hb h)
theorem div_ok {i j : Int} {b : Nat} (h : j ≠ 0) (hb : j.natAbs < 2 ^ b) (h9 : b ≤ 9000) : CDivG i j := by
  have h0 : 0 < b := by
    rcases Nat.eq_zero_or_pos b with z | z
    · subst z
      have : j.natAbs < 1 := hb
      omega
    · exact z
  exact ⟨h, Nat.lt_of_lt_of_le (PySem.Flt.log2_lt_of h0 hb) h9⟩

section
variable {prog : Program} {w : World} {A : Around} {E : Value → Shared → Prop} {s : Shared}
set_option maxHeartbeats 1000000 in
theorem meets_enumerate_newT (a : Addr) (items : Array Value) :
    Meets (Builtin.«enumerate.__new__» ⟨[.type "enumerate", .ref a], []⟩) (fun _ R s => s.heap.IsTuple a items ∧
      R (.ok (.ret (.ref (s.heap.push { cls := .type "tuple_iterator", data := .fields #[.ref a, .int 0 0] }).objs.size)))
        { s with heap := (s.heap.push { cls := .type "tuple_iterator", data := .fields #[.ref a, .int 0 0] }).push { cls := .type "enumerate", data := .fields #[.none, .bool false, .ref s.heap.objs.size, rawInt 0, .none, .none] } }) :=
  .of_wp fun prog w A R s h => by
    obtain ⟨hp, g, d, tk, os⟩ := s
    obtain ⟨hT, h⟩ := h
    have hsub := sub_enumerate
    have q1 : ∀ {A' : Around} {E : Value → Shared → Prop} {Q : Value → Shared → Prop}, Q (.ref hp.objs.size) ⟨hp.push { cls := .type "tuple_iterator", data := .fields #[.ref a, .int 0 0] }, g, d, tk, os⟩ → wpAny (model prog w) A' (pyIter (.ref a)) Q E ⟨hp, g, d, tk, os⟩ :=
      fun q => wpAny_pyIter_tuple (s := ⟨hp, g, d, tk, os⟩) hT q
    wp_walk using q1
    refine wpAny_stack_any fun st => wpAny_pure ?_
    split
    · rename_i c _ _ _ _ _
      cases (c == Value.type "enumerate")
      · wp_walk using q1
        exact ⟨_, rfl, h⟩
      · wp_walk using q1
        exact ⟨_, rfl, h⟩
    · wp_walk using q1
      exact ⟨_, rfl, h⟩
theorem call_enumerate_tuple {a : Addr} {items : Array Value} {Q : Value → Shared → Prop} (hL : s.heap.IsTuple a items)
    (h : ∀ h', IsEnum h' (s.heap.objs.size + 1) s.heap.objs.size 0 .none → h'.IsTupleIter s.heap.objs.size a 0 → h'.objs.size = s.heap.objs.size + 2 →
      (∀ b o, s.heap.get? b = some o → h'.get? b = some o) → Q (.ref (s.heap.objs.size + 1)) { s with heap := h' }) :
    wpAny (model prog w) A (call (.type "enumerate") [.ref a]) Q E s := by
  refine callType_new F.called_enumerate (by decide) (F.typeCall_enumerate_1 _) (F.newCall_enumerate_1 _) (fun obj => F.args_object_init_2 obj _) F.entry_enumerate_new
    (meets_enumerate_newT a items) ⟨hL, ?_⟩
  have hz : (s.heap.push { cls := .type "tuple_iterator", data := .fields #[.ref a, .int 0 0] }).objs.size = s.heap.objs.size + 1 := Heap.size_push ..
  show _ ∧ _
  rw [hz]
  have he : IsEnum ((s.heap.push { cls := .type "tuple_iterator", data := .fields #[.ref a, .int 0 0] }).push
      { cls := .type "enumerate", data := .fields #[.none, .bool false, .ref s.heap.objs.size, rawInt 0, .none, .none] }) (s.heap.objs.size + 1) s.heap.objs.size 0 .none := by
    have := Heap.get?_push_size (s.heap.push { cls := .type "tuple_iterator", data := .fields #[.ref a, .int 0 0] })
      (o := { cls := .type "enumerate", data := .fields #[.none, .bool false, .ref s.heap.objs.size, rawInt 0, .none, .none] }) rfl
    rw [hz] at this; exact this
  refine ⟨⟨_, he, rfl⟩, h _ he ⟨_, Heap.get?_push_of_some _ (Heap.get?_push_size _ rfl), rfl, rfl⟩ (by rw [Heap.size_push, hz]) fun b o x => Heap.get?_push_of_some _ (Heap.get?_push_of_some _ x)⟩
end
def IteT (K : PySem.W.Frag) (a : Addr) (n : Nat) : It :=
  ⟨fun i H => i < n ∧ ∃ (xs : List V) (x : V), SqT K H a xs ∧ xs[i]? = some x, fun i H v H' => ∃ T x, v = .ref T ∧ H T = none ∧ H' = upd H T (.tup [.int (i : Nat), x]) ∧ ∀ xs, SqT K H a xs → xs[i]? = some x, fun i H => n ≤ i ∧ ∃ xs : List V, SqT K H a xs ∧ xs.length = n⟩
theorem turn_enumT {P : Program} {w : World} {K : PySem.W.Frag} {elts : List Expr} {kk : Nat} {tpos : Pos} (a e it : Addr) (n : Nat) :
    Turn P w K (.Tuple elts kk tpos) (IteT K a n) [e, it] e (fun i h => (∃ old, IsEnum h e it ((i : Nat) : Int) old) ∧ h.IsTupleIter it a i ∧ e ≠ it ∧ i ≤ n) where
  mem := by simp
  obj := fun i h st b hb => by
    obtain ⟨⟨old, he⟩, ⟨o, ho, hc, hd⟩, _⟩ := st
    have e' : b = e ∨ b = it := by simpa using hb
    rcases e' with z | z
    · rw [z]; exact ⟨_, he, fun v q => nomatch q⟩
    · rw [z]; exact ⟨o, ho, fun v q => by rw [hd] at q; cases q⟩
  keep := fun i h h' st k => let ⟨⟨old, he⟩, hi, hne⟩ := st; ⟨⟨old, k e (by simp) _ he⟩, hi.at fun o q => k it (by simp) o q, hne⟩
  item := by
    intro X hP hw hK hc i pins s σ H E I hf st hg
    subst hP hw hK
    obtain ⟨⟨old, he⟩, hit, hne, hin⟩ := st
    obtain ⟨hlt, xs, x, hq, hx⟩ := hg
    obtain ⟨its, rv, p, hz⟩ := I.tuple hq
    obtain ⟨u, hu, ru⟩ := rv.get hx
    have hel : e < s.heap.objs.size := Heap.lt_size he
    have hil : it < s.heap.objs.size := by obtain ⟨_, q, _⟩ := hit; exact Heap.lt_size q
    have ha : ∃ o, s.heap.get? a = some o ∧ o.cls = .type "tuple" := by obtain ⟨o, h1, h2, _⟩ := p; exact ⟨o, h1, h2⟩
    obtain ⟨oa, hoa, hca⟩ := ha
    have hae : a ≠ e := fun z => by
      rw [z, he] at hoa
      have hoa := Option.some.inj hoa
      rw [← hoa] at hca
      exact absurd (show Value.type "enumerate" = Value.type "tuple" from hca) (by decide)
    have hai : a ≠ it := fun z => by
      obtain ⟨o, h1, h2, _⟩ := hit
      rw [z, h1] at hoa
      cases hoa
      rw [h2] at hca
      exact absurd hca (by decide)
    have hT0 : s.heap.IsTuple a its.toArray := p
    have D := Draws.tuple (prog := X.prog) (w := X.w) (A := X.A.in1) (show X.A.in1.handled = none from I.ok.hd hc) it a hai its.toArray
    have hilt : i < its.toArray.size := by
      have := (List.getElem?_eq_some_iff.mp hu).1
      simpa using this
    refine wpAny_pyNext_enum_itemD D he ⟨hit, hT0⟩ hilt hne (by simp [hne, Ne.symm hae]) fun x' h' tk hP' ho hst' hT hsz hk => ?_
    have eu : x' = u := by
      have q : its.toArray[i]? = some x' := hP'
      rw [List.getElem?_toArray, hu] at q
      exact (Option.some.inj q).symm
    subst eu
    obtain ⟨hit', _⟩ := hst'
    refine ⟨_, rfl, wpAny_letOwnedTupleGo_enum (s := { s with heap := h', toks := tk + 1 }) ho fun h'' he' sb => ?_⟩
    have hT2 : h''.get? s.heap.objs.size = some { cls := .type "tuple", data := .seq #[.int i tk, x'] } := (sb.2 _ (Nat.ne_of_gt hel)).trans hT
    have new : ObjOk X.prog X.w (upd H s.heap.objs.size (.tup [.int (i : Nat), x])) h'' s.heap.objs.size (.tup [.int (i : Nat), x]) :=
      ⟨by show 2 ≤ sizeLine; decide, [.int i tk, x'], .cons ⟨_, rfl⟩ (.cons ru .nil), ⟨_, hT2, rfl, _, rfl⟩⟩
    have I1 : Inv X pins σ (upd H s.heap.objs.size (.tup [.int (i : Nat), x])) { s with heap := h'', toks := tk + 1 } :=
      I.turnedNew (ch := [e, it]) (fun b ob hb q => (sb.2 b (fun z => hb (by simp [z]))).trans (hk b ob (fun z => hb (by simp [z])) (fun z => hb (by simp [z])) q)) hf (Nat.le_refl _) new
    refine ⟨.ref s.heap.objs.size, _, I1, rfl, ⟨_, x, rfl, I.hok.fresh (Nat.le_refl _), rfl, fun ys hy => by rw [I.tuple_inj hy hq]; exact hx⟩, ⟨⟨x', ?_⟩, hit'.at fun o q => (sb.2 it (Ne.symm hne)).trans q, hne, hlt⟩, fun b hb => ?_⟩
    · have e1 : ((i + 1 : Nat) : Int) = (i : Int) + 1 := by omega
      rw [e1]; exact he'
    · have hb' : b < s.heap.objs.size := by
        have e' : b = e ∨ b = it := by simpa using hb
        rcases e' with z | z
        · rw [z]; exact hel
        · rw [z]; exact hil
      rw [upd_ne (Nat.ne_of_lt hb')]
      exact (hf b hb).1
  done := by
    intro X hP hw hK hc i pins s σ H E I hf st hg
    subst hP hw hK
    obtain ⟨⟨old, he⟩, hit, hne, hin⟩ := st
    obtain ⟨hge, xs, hq, hxl⟩ := hg
    obtain ⟨its, rv, p, hz⟩ := I.tuple hq
    obtain ⟨f0, f1, f2, f3, f4, f5⟩ := hf it (by simp)
    have hl := rv.length
    have ha : ∃ o, s.heap.get? a = some o ∧ o.cls = .type "tuple" := by obtain ⟨o, h1, h2, _⟩ := p; exact ⟨o, h1, h2⟩
    obtain ⟨oa, hoa, hca⟩ := ha
    have hai : a ≠ it := fun z => by
      obtain ⟨o, h1, h2, _⟩ := hit
      rw [z, h1] at hoa
      cases hoa
      rw [h2] at hca
      exact absurd hca (by decide)
    have D := Draws.tuple (prog := X.prog) (w := X.w) (A := X.A.in1) (show X.A.in1.handled = none from I.ok.hd hc) it a hai its.toArray
    have ei : i = its.toArray.size := by
      simp only [List.size_toArray]
      omega
    refine wpAny_pyNext_enum_endD D he (show s.heap.IsTupleIter it a its.toArray.size ∧ s.heap.IsTuple a its.toArray from ⟨by rw [← ei]; exact hit, p⟩) fun h' eb => ⟨rfl, I.turned (t' := s.toks) (fun b o hb q => eb b o hb q) f0 f1 f3 f4 f5⟩
  self := fun A i s Q E st h => let ⟨⟨_, he⟩, _⟩ := st; wpAny_pyIter_enum he h
def iEnumT (K : PySem.W.Frag) (ta : TA) : TI := fun σ H R => ta σ H fun vs H1 => ∃ a xs, vs = [.ref a] ∧ SqT K H1 a xs ∧ R (IteT K a xs.length) H1
theorem pi_enumT {X : Cx} {e : Expr} {ta : TA} {p pos tpos : Pos} {elts : List Expr} {kk : Nat} (hg : Gl X "enumerate") (hm : X.mg "enumerate" = none) (ha : PA X [e] ta) (hs : starEach [e] X.env = [(false, eval e X.env)] := by rfl) :
    PI X (.Tuple elts kk tpos) (.Call (.Name "enumerate" p) [e] [] pos) (iEnumT X.K ta) := by
  refine ⟨fun pins s σ H R I h => ?_⟩
  refine Call_ (ld_blt I hg hm boot_enumerate (PyProof.Rows.callWith_type1 (thn (ha.run pos pins s σ H _ I h) fun us s1 ⟨vs, H1, I1, r1, q1⟩ => ?_) hs rfl))
  obtain ⟨a, xs, ex, hq, q⟩ := q1
  subst ex
  cases r1 with
  | cons r rr =>
    cases rr
    cases r
    obtain ⟨its, rv, p', hz⟩ := I1.tuple hq
    refine call_enumerate_tuple (show s1.heap.IsTuple a its.toArray from p') fun h' he hit hsz hk => wpAny_pyIter_enum he ?_
    have I2 : Inv X pins σ H1 { s1 with heap := h' } := I1.kept (t' := s1.toks) hk
    refine ⟨s1.heap.objs.size + 1, [s1.heap.objs.size + 1, s1.heap.objs.size], _, _, H1, rfl, I2, turn_enumT a (s1.heap.objs.size + 1) s1.heap.objs.size xs.length, ⟨⟨.none, he⟩, hit, Nat.succ_ne_self _, Nat.zero_le _⟩, fun b hb => ?_, q⟩
    have e' : b = s1.heap.objs.size + 1 ∨ b = s1.heap.objs.size := by simpa using hb
    have hle : s1.heap.objs.size ≤ b := by
      rcases e' with z | z
      · rw [z]; exact Nat.le_add_right _ _
      · rw [z]; exact Nat.le_refl _
    exact I1.fpOk hle (I1.hok.fresh hle)
theorem walk_enumT {K : PySem.W.Frag} {a : Addr} {xs : List V} : Walk (IteT K a xs.length) xs.length (fun H => SqT K H a xs) (YPair (fun i => some (.int (i : Nat))) (fun i => xs[i]?)) := by
  refine ⟨fun i _ hi q => ⟨hi, xs, xs[i], q, by simp [hi]⟩, fun _ q => ⟨Nat.le_refl _, xs, q, rfl⟩, fun i H v H' _ q y => ?_⟩
  obtain ⟨T, x, h1, h2, h3, h4⟩ := y
  exact ⟨T, .int (i : Nat), x, h1, h2, h3, rfl, h4 xs q⟩

/-! ### a def that may be called by its name; what it lets out is told by the promise -/
structure Cal (P : Program) (w : World) (K : PySem.W.Frag) (mg : Str → Option Value) (base : Heap) (k : Nat) (x : Str) (sp : Sp) : Prop where
  ex : ∃ (f : Addr) (fd : FuncData) (ps : List Str), FnOk P w K mg base (L2.CX P w) k f fd ps sp ∧ mg x = some (.ref f) ∧ PySem.W.keepIn K (.ref f) = true ∧ Binds K fd ps []
/-- a def of the module under its name -/
structure DefF (K : PySem.W.Frag) (mg : Str → Option Value) (x : Str) (st : Stmt) (ps : List Str) (f : Addr) (fd : FuncData) : Prop where
  fn : Fun K x x st f fd
  mgf : mg x = some (.ref f)
  bi : Binds K fd ps []
section
variable {P : Program} {w : World} {K : PySem.W.Frag} {mg : Str → Option Value} {base : Heap}
/-- a def that raises nothing -/
theorem cal_of {x : Str} {st : Stmt} {f : Addr} {fd : FuncData} {N ps : List Str} {k : Nat} {sp : Sp} (F : DefF K mg x st ps f fd) (S : FnScope N ps (defScope st)) (len : ∀ vs H Q E, sp vs H Q E → vs.length = ps.length)
    (hbody : ∀ (cdv : Value) (A : Around) (outer : List Env) (s : Shared) (H : Hp) (vs : List V) (Q : VK) (E : XK), Room k (A.deeper (envOfC x (defScope st) s.heap.objs.size f cdv)) → sp vs H Q E →
      ∃ t, PSs (cxOf (L2.CX P w) P w K mg base N x (defScope st) f cdv A outer s H E).nox (defBody st) t ∧ t { nx := fun _ H' => Q .non H', rt := Q } (start N vs) H) : Cal P w K mg base (k + 1) x sp :=
  ⟨f, fd, ps, F.fn.okX S len fun cdv A outer s H vs Q E hr h => let ⟨t, h1, h2⟩ := hbody cdv A outer s H vs Q E hr h; ⟨t, h1.nox, h2⟩, F.mgf, F.fn.kp, F.bi⟩
/-- a def that may raise -/
theorem cal_ofX {x : Str} {st : Stmt} {f : Addr} {fd : FuncData} {N ps : List Str} {k : Nat} {sp : Sp} (F : DefF K mg x st ps f fd) (S : FnScope N ps (defScope st)) (len : ∀ vs H Q E, sp vs H Q E → vs.length = ps.length)
    (hbody : ∀ (cdv : Value) (A : Around) (outer : List Env) (s : Shared) (H : Hp) (vs : List V) (Q : VK) (E : XK), Room k (A.deeper (envOfC x (defScope st) s.heap.objs.size f cdv)) → sp vs H Q E →
      ∃ t, PSs (cxOf (L2.CX P w) P w K mg base N x (defScope st) f cdv A outer s H E) (defBody st) t ∧ t { nx := fun _ H' => Q .non H', rt := Q } (start N vs) H) : Cal P w K mg base (k + 1) x sp :=
  ⟨f, fd, ps, F.fn.okX S len hbody, F.mgf, F.fn.kp, F.bi⟩
theorem Cal.mono {x : Str} {j k : Nat} {sp : Sp} (c : Cal P w K mg base j x sp) (h : j ≤ k) : Cal P w K mg base k x sp :=
  let ⟨f, fd, ps, F, r⟩ := c.ex; ⟨f, fd, ps, F.mono h, r⟩
theorem Cal.imp {x : Str} {k : Nat} {sp sp' : Sp} (c : Cal P w K mg base k x sp) (h : ∀ vs H Q E, sp' vs H Q E → sp vs H Q E) : Cal P w K mg base k x sp' :=
  let ⟨f, fd, ps, F, r⟩ := c.ex; ⟨f, fd, ps, F.imp h, r⟩
end
section
variable {X : Cx} {k j : Nat} {x : Str} {sp : Sp} {p pos : Pos} {e : Expr} {es : List Expr} {t : TA}
/-- f(e, ..), nothing is let out -/
theorem pe_cc (c : Cal X.prog X.w X.K X.mg X.base k x sp) (hr : Room j X.A) (hk : k ≤ j) (hg : Gl X x) (ha : PA X (e :: es) t)
    (hdb : (x == ("__debug__" : Str)) = false := by decide) (he : starEach (e :: es) X.env = (false, eval e X.env) :: starEach es X.env := by rfl) (hpl : (backTo pos (starEach es X.env)).any (·.1) = false := by rfl) :
    PE X (.Call (.Name x p) (e :: es) [] pos) (tCall sp [] E0 t) := by
  obtain ⟨f, fd, ps, F, hm, kp, b⟩ := c.ex
  exact pe_call F (hr.mono hk) hg hm kp b .nil passL ha hdb he hpl
/-- f(e, ..) within a try: what is let out is wished for at the caller's slots -/
theorem pe_ccS {W : WX} (c : Cal X.prog X.w X.K X.mg X.base k x sp) (hr : Room j X.A) (hk : k ≤ j) (hg : Gl X x) (tk : Takes X W) (ha : PA X (e :: es) t)
    (hdb : (x == ("__debug__" : Str)) = false := by decide) (he : starEach (e :: es) X.env = (false, eval e X.env) :: starEach es X.env := by rfl) (hpl : (backTo pos (starEach es X.env)).any (·.1) = false := by rfl) :
    PE X (.Call (.Name x p) (e :: es) [] pos) (tCallS sp (WE W) t) := by
  obtain ⟨f, fd, ps, F, hm, kp, b⟩ := c.ex
  exact pe_callS F (hr.mono hk) hg hm kp b (fun σ => passAt tk σ) ha hdb he hpl
end

/-! ### how the heap may change: all that is tracked stands, but for lists at L -/
def Ch (L : List Addr) (H H' : Hp) : Prop := ∀ a o, H a = some o → H' a = some o ∨ (a ∈ L ∧ ∃ xs ys, o = .lst xs ∧ H' a = some (.lst ys))
section
variable {L M : List Addr} {H H1 H2 H' : Hp} {K : PySem.W.Frag} {a b l p : Addr} {xs ys : List V} {o : HO}
theorem Ch.refl : Ch L H H := fun _ _ h => .inl h
theorem Ch.mono (c : Ch L H H') (h : ∀ a ∈ L, a ∈ M) : Ch M H H' := fun a o e => (c a o e).imp id fun ⟨m, r⟩ => ⟨h a m, r⟩
theorem Ch.of0 (c : Ch [] H H') : Ch L H H' := c.mono fun _ m => nomatch m
theorem Ch.trans (c : Ch L H H1) (d : Ch L H1 H2) : Ch L H H2 := fun a o e => by
  rcases c a o e with h | ⟨m, xs, ys, rfl, h⟩
  · exact d a o h
  · rcases d a _ h with h2 | ⟨_, _, zs, _, h2⟩
    · exact .inr ⟨m, xs, ys, rfl, h2⟩
    · exact .inr ⟨m, xs, zs, rfl, h2⟩
/-- a list that was new may change as it will -/
theorem Ch.cut (c : Ch L H H1) (hn : H l = none) (d : Ch [l] H1 H2) : Ch L H H2 := fun a o e => by
  have ne : a ≠ l := ne_of_none e hn
  rcases c a o e with h | ⟨m, xs, ys, rfl, h⟩
  · rcases d a o h with h2 | ⟨m2, _⟩
    · exact .inl h2
    · exact absurd (List.mem_singleton.mp m2) ne
  · rcases d a _ h with h2 | ⟨m2, _⟩
    · exact .inr ⟨m, xs, ys, rfl, h2⟩
    · exact absurd (List.mem_singleton.mp m2) ne
theorem Ch.trans0 (c : Ch L H H1) (d : Ch [] H1 H2) : Ch L H H2 := c.trans d.of0
theorem Ch.new (h : H p = none) : Ch [] H (upd H p o) := fun a u e => .inl (by rw [upd_ne (ne_of_none e h)]; exact e)
theorem Ch.set (h : H l = some (.lst xs)) : Ch [l] H (upd H l (.lst ys)) := fun a u e => by
  by_cases q : a = l
  · subst q
    rw [h] at e
    cases e
    exact .inr ⟨List.mem_singleton.mpr rfl, xs, ys, rfl, upd_same⟩
  · exact .inl (by rw [upd_ne q]; exact e)
theorem Ch.free (c : Ch L H H') (h : H' p = none) : H p = none := by
  cases q : H p with
  | none => rfl
  | some u =>
    rcases c p u q with e | ⟨_, _, _, _, e⟩
    · rw [h] at e
      cases e
    · rw [h] at e
      cases e
theorem Ch.tup (c : Ch L H H') (h : H a = some (.tup xs)) : H' a = some (.tup xs) := by
  rcases c a _ h with e | ⟨_, _, _, q, _⟩
  · exact e
  · cases q
theorem Ch.frz {ob : Obj} {u : HO} (c : Ch L H H') (h : H a = some (.frz ob u)) : H' a = some (.frz ob u) := by
  rcases c a _ h with e | ⟨_, _, _, q, _⟩
  · exact e
  · cases q
theorem Ch.sqT (c : Ch L H H') (h : SqT K H a xs) : SqT K H' a xs := by
  rcases h with (h | ⟨o, h⟩) | h
  · exact .inl (.inl (c.tup h))
  · exact .inl (.inr ⟨o, c.frz h⟩)
  · exact .inr h
theorem Ch.at0 (c : Ch [] H H') (h : H a = some o) : H' a = some o := (c a o h).elim id fun ⟨m, _⟩ => nomatch m
theorem Ch.at1 (c : Ch [l] H H') (ne : a ≠ l) (h : H a = some o) : H' a = some o := (c a o h).elim id fun ⟨m, _⟩ => absurd (List.mem_singleton.mp m) ne
theorem Ch.sq0 (c : Ch [] H H') (h : SqL K H a xs) : SqL K H' a xs := by
  rcases h with (h | ⟨o, h⟩) | h
  · exact .inl (.inl (c.at0 h))
  · exact .inl (.inr ⟨o, c.frz h⟩)
  · exact .inr h
theorem Ch.same (c : Ch [] H H') : Same H H' := fun a o h => c.at0 h
end

/-! ### ints as values -/
abbrev ivs (p : List Int) : List V := p.map V.int
theorem ivs_get {p : List Int} {i : Nat} {x : Int} (h : p[i]? = some x) : (ivs p)[i]? = some (.int x) := by
  rw [List.getElem?_map, h]
  rfl
theorem ivs_get_inv {p : List Int} {i : Nat} {v : V} (h : (ivs p)[i]? = some v) : ∃ x, p[i]? = some x ∧ v = .int x := by
  rw [List.getElem?_map] at h
  cases e : p[i]? with
  | none =>
    rw [e] at h
    cases h
  | some x =>
    rw [e] at h
    exact ⟨x, rfl, (Option.some.inj h).symm⟩
theorem atI_ivs {p : List Int} {i : Nat} {k : Int} (hk : k = (i : Int)) (h : i < p.length) : atI (ivs p) k = some (.int p[i]) := by
  subst hk
  exact atI_nat (ivs_get (List.getElem?_eq_getElem h))
theorem atI_int {p : List Int} {k x : Int} {i : Nat} (hk : k = (i : Int)) (h : p[i]? = some x) : atI (ivs p) k = some (.int x) := by
  subst hk
  exact atI_nat (ivs_get h)
theorem sz_le {n : Nat} (h : n ≤ 100000) : n ≤ sizeLine := Nat.le_trans h (by decide)
theorem sz_lt {n : Nat} (h : n < 100000) : n < sizeLine := Nat.lt_of_lt_of_le h (by decide)

/-! ### readings, step by step; the ends of a block stand as a constructor -/
section
variable {σ : L2.St} {H : Hp} {Q : VK} {K : PySem.W.Frag} {ta tb te : TE} {t u : TS} {D : Ends} {a : Addr} {xs : List V} {v x y : V} {i j : Int} {n : Nat} {r : R2}
  {N B C : L2.St → Hp → Prop} {R : VK}
theorem w_seq (h : t ⟨u ⟨N, R, B, C⟩, R, B, C⟩ σ H) : tSeq t u ⟨N, R, B, C⟩ σ H := h
theorem w_asg (h : te σ H fun x H1 => N (σ.set n (some x)) H1) : tAsg te (gName n) ⟨N, R, B, C⟩ σ H := h
theorem w_asgG {g : TG} (h : te σ H fun x H1 => g x σ H1 N) : tAsg te g ⟨N, R, B, C⟩ σ H := h
theorem w_ret (h : te σ H R) : tRet te ⟨N, R, B, C⟩ σ H := h
theorem w_drop (h : te σ H fun _ H1 => N σ H1) : tDrop te ⟨N, R, B, C⟩ σ H := h
theorem w_if {c : TT} (h : c σ H fun b H1 => if b = true then t ⟨N, R, B, C⟩ σ H1 else u ⟨N, R, B, C⟩ σ H1) : tIfS c t u ⟨N, R, B, C⟩ σ H := h
theorem w_next (h : N σ H) : tNext ⟨N, R, B, C⟩ σ H := h
theorem w_break (h : B σ H) : tBreak ⟨N, R, B, C⟩ σ H := h
theorem w_continue (h : C σ H) : tCont ⟨N, R, B, C⟩ σ H := h
theorem w_par {n m : Nat} {tr : TA} (h : tr σ H fun vs H1 => ∃ v w, vs = [v, w] ∧ N ((σ.set n (some v)).set m (some w)) H1) : tPar n m tr ⟨N, R, B, C⟩ σ H := h
theorem w_two {w : V} {S : V → V → Prop} (h : S v w) : ∃ v' w', [v, w] = [v', w'] ∧ S v' w' := ⟨v, w, rfl, h⟩
theorem w_cut {M : L2.St → Hp → Prop} (h : t ⟨M, R, B, C⟩ σ H) (k : ∀ σ' H', M σ' H' → u ⟨N, R, B, C⟩ σ' H') : Evl.tCut t u ⟨N, R, B, C⟩ σ H := ⟨M, h, k⟩
theorem w_var (e : σ[n]? = some (some v)) (h : Q v H) : tVar n σ H Q := ⟨v, e, h⟩
theorem w_c (h : Q v H) : tC v σ H Q := h
theorem w_op (h : ta σ H fun x H1 => tb σ H1 fun y H2 => r x y H2 Q) : tOp r ta tb σ H Q := h
theorem w_un {f : V → Hp → VK → Prop} (h : ta σ H fun x H1 => f x H1 Q) : tUn f ta σ H Q := h
theorem w_I0 {g : Int → Int → V} (h : Q (g i j) H) : rI0 g (.int i) (.int j) H Q := ⟨i, j, rfl, rfl, h⟩
theorem w_I {C : Int → Int → Prop} {g : Int → Int → V} (c : C i j) (h : Q (g i j) H) : rI C g (.int i) (.int j) H Q := ⟨i, j, rfl, rfl, c, h⟩
theorem w_mod {g : Int → Int → V} (c : 0 < j) (h : Q (g i j) H) : rI (fun _ j => 0 < j) g (.int i) (.int j) H Q := ⟨i, j, rfl, rfl, c, h⟩
theorem w_div {g : Int → Int → V} (c : 0 < j) (d : j < 1073741824) (h : Q (g i j) H) : rI CDiv g (.int i) (.int j) H Q := ⟨i, j, rfl, rfl, ⟨c, d⟩, h⟩
theorem w_pow {g : Int → Int → V} (c : 0 ≤ j) (d : j ≤ 1000000) (e : i.natAbs < 2 ^ 64) (h : Q (g i j) H) : rI CPow g (.int i) (.int j) H Q := ⟨i, j, rfl, rfl, ⟨c, d, e⟩, h⟩
theorem w_mulr {g : Int → Int → V} (c : j.natAbs < 2 ^ 63) (h : Q (g i j) H) : rI IntMulOk g (.int i) (.int j) H Q := ⟨i, j, rfl, rfl, mul_ok_r c, h⟩
theorem w_mull {g : Int → Int → V} (c : i.natAbs < 2 ^ 63) (h : Q (g i j) H) : rI IntMulOk g (.int i) (.int j) H Q := ⟨i, j, rfl, rfl, mul_ok_l c, h⟩
theorem w_U {g : Int → V} (h : Q (g i) H) : rU g (.int i) H Q := ⟨i, rfl, h⟩
theorem w_eqI (h : Q (.bl (decide (i = j))) H) : rEq (.int i) (.int j) H Q := ⟨rfl, by
  have e : decide (V.int i = V.int j) = decide (i = j) := by
    by_cases q : i = j
    · subst q
      rw [decide_eq_true rfl, decide_eq_true rfl]
    · rw [decide_eq_false q, decide_eq_false fun z => q (V.int.inj z)]
  rw [e]
  exact h⟩
theorem w_neI (h : Q (.bl (!decide (i = j))) H) : rNe (.int i) (.int j) H Q := ⟨rfl, by
  have e : decide (V.int i = V.int j) = decide (i = j) := by
    by_cases q : i = j
    · subst q
      rw [decide_eq_true rfl, decide_eq_true rfl]
    · rw [decide_eq_false q, decide_eq_false fun z => q (V.int.inj z)]
  rw [e]
  exact h⟩
theorem w_ixT (h : SqT K H a xs) (e : atI xs i = some v) (q : Q v H) : rIxT K (.ref a) (.int i) H Q := ⟨a, xs, i, v, rfl, rfl, h, e, q⟩
theorem w_ixL (h : SqL K H a xs) (e : atI xs i = some v) (q : Q v H) : rIxL K (.ref a) (.int i) H Q := ⟨a, xs, i, v, rfl, rfl, h, e, q⟩
theorem w_ixTi {p : List Int} {z : Int} {k : Nat} (h : SqT K H a (ivs p)) (hk : i = (k : Int)) (e : p[k]? = some z) (q : Q (.int z) H) : rIxT K (.ref a) (.int i) H Q := w_ixT h (atI_int hk e) q
theorem w_ixLi {p : List Int} {z : Int} {k : Nat} (h : H a = some (.lst (ivs p))) (hk : i = (k : Int)) (e : p[k]? = some z) (q : Q (.int z) H) : rIxL K (.ref a) (.int i) H Q := w_ixL (.of h) (atI_int hk e) q
theorem w_test {R : Bool → Hp → Prop} (h : te σ H fun x H' => ∃ k, x = .bl k ∧ R k H') : tTest te σ H R := h
theorem w_B {R : Bool → Hp → Prop} (h : te σ H fun x H' => ∃ k, x = .bl k ∧ R k H') : tB te σ H R := h
theorem w_bl {R : Bool → Prop} {b : Bool} (h : R b) : ∃ k, V.bl b = .bl k ∧ R k := ⟨b, rfl, h⟩
theorem w_int {R : Int → Prop} (h : R i) : ∃ k, V.int i = .int k ∧ R k := ⟨i, rfl, h⟩
theorem w_N {R : L2.St → Hp → Prop} {S : (L2.St → Hp → Prop) → Prop} (h : S R) : ∃ N : L2.St → Hp → Prop, (∀ σ' H', N σ' H' → R σ' H') ∧ S N := ⟨R, fun _ _ h => h, h⟩
theorem w_start {N : List Str} {vs : List V} (e : L2.start N vs = σ) (h : t D σ H) : t D (L2.start N vs) H := e ▸ h
theorem w_and {c d : TT} {R : Bool → Hp → Prop} (h : c σ H fun b H1 => if b = true then d σ H1 R else R false H1) : tAnd c d σ H R := h
theorem w_or {c d : TT} {R : Bool → Hp → Prop} (h : c σ H fun b H1 => if b = true then R true H1 else d σ H1 R) : tOr c d σ H R := h
theorem w_not {c : TT} {R : Bool → Hp → Prop} (h : c σ H fun b H1 => R (!b) H1) : tNot c σ H R := h
theorem w_andV (h : ta σ H fun x H1 => ∃ c, x = .bl c ∧ if c = true then tb σ H1 Q else Q (.bl false) H1) : tAndV ta tb σ H Q := h
theorem w_orV (h : ta σ H fun x H1 => ∃ c, x = .bl c ∧ if c = true then Q (.bl true) H1 else tb σ H1 Q) : tOrV ta tb σ H Q := h
theorem w_notV (h : ta σ H fun x H1 => ∃ c, x = .bl c ∧ Q (.bl (!c)) H1) : tNotV ta σ H Q := h
theorem w_ifE {c : TT} (h : c σ H fun b H1 => if b = true then ta σ H1 Q else tb σ H1 Q) : tIf c ta tb σ H Q := h
theorem w_nil {R : List V → Hp → Prop} (h : R [] H) : tNil σ H R := h
theorem w_cons {tr : TA} {R : List V → Hp → Prop} (h : ta σ H fun x H1 => tr σ H1 fun xs H2 => R (x :: xs) H2) : tCons ta tr σ H R := h
theorem w_cb {f : List V → Hp → VK → Prop} {tr : TA} (h : tr σ H fun vs H1 => f vs H1 Q) : tCB f tr σ H Q := h
theorem w_call {sp : Sp} {dvs : List V} {E : XK} {tr : TA} (h : tr σ H fun vs H1 => sp (vs ++ dvs) H1 Q E) : tCall sp dvs E tr σ H Q := h
/-- a new object, and the heap behind it as a letter -/
theorem w_new {o : HO} {R : Addr → Hp → Prop} (h : ∀ p H', H p = none → Ch [] H H' → H' p = some o → R p H') : ∀ p, H p = none → R p (upd H p o) := fun p hp => h p _ hp (Ch.new hp) upd_same
/-- the tuple, the list of these items, new -/
def NewT (xs : List V) (H : Hp) (Q : VK) : Prop := xs.length ≤ sizeLine ∧ ∀ p, H p = none → Q (.ref p) (upd H p (.tup xs))
def NewL (xs : List V) (H : Hp) (Q : VK) : Prop := xs.length ≤ sizeLine ∧ ∀ p, H p = none → Q (.ref p) (upd H p (.lst xs))
theorem w_tup {tr : TA} (h : tr σ H fun xs H1 => NewT xs H1 Q) : tTup tr σ H Q := h
theorem w_lst {tr : TA} (h : tr σ H fun xs H1 => NewL xs H1 Q) : tLst tr σ H Q := h
theorem w_newT (hl : xs.length ≤ sizeLine) (q : ∀ p H', H p = none → Ch [] H H' → H' p = some (.tup xs) → Q (.ref p) H') : NewT xs H Q := ⟨hl, w_new q⟩
theorem w_newL (hl : xs.length ≤ sizeLine) (q : ∀ p H', H p = none → Ch [] H H' → H' p = some (.lst xs) → Q (.ref p) H') : NewL xs H Q := ⟨hl, w_new q⟩
theorem ite_b {A B : Prop} {b : Bool} (h1 : b = true → A) (h2 : b = false → B) : if b = true then A else B := by
  cases b with
  | true =>
    rw [if_pos rfl]
    exact h1 rfl
  | false =>
    rw [if_neg Bool.false_ne_true]
    exact h2 rfl
theorem ite_d {A B P : Prop} [Decidable P] (h1 : P → A) (h2 : ¬ P → B) : if decide P = true then A else B := ite_b (fun e => h1 (of_decide_eq_true e)) fun e => h2 (of_decide_eq_false e)
theorem ite_nd {A B P : Prop} [Decidable P] (h1 : ¬ P → A) (h2 : P → B) : if (!decide P) = true then A else B := ite_b (fun e => h1 (by simpa using e)) fun e => h2 (by simpa using e)
theorem ite_t {A B : Prop} (h : A) : if true = true then A else B := by rw [if_pos rfl]; exact h
theorem ite_f {A B : Prop} (h : B) : if false = true then A else B := by rw [if_neg Bool.false_ne_true]; exact h
theorem ite_dt {A B P : Prop} [Decidable P] (p : P) (h : A) : if decide P = true then A else B := by rw [if_pos (decide_eq_true p)]; exact h
theorem ite_df {A B P : Prop} [Decidable P] (p : ¬ P) (h : B) : if decide P = true then A else B := by rw [if_neg (fun e => p (of_decide_eq_true e))]; exact h
end

/-! ### built-ins, by values, under names -/
def rLen (K : PySem.W.Frag) : List V → Hp → VK → Prop := fun xs H Q => ∃ p ys, xs = [.ref p] ∧ (SqL K H p ys ∨ SqT K H p ys) ∧ Q (.int ys.length) H
def rListOf (K : PySem.W.Frag) : List V → Hp → VK → Prop := fun xs H Q => ∃ p ys, xs = [.ref p] ∧ (SqL K H p ys ∨ SqT K H p ys) ∧ ∀ l, H l = none → Q (.ref l) (upd H l (.lst ys))
def rTupleOf (K : PySem.W.Frag) : List V → Hp → VK → Prop := fun xs H Q => ∃ p ys, xs = [.ref p] ∧ ((SqL K H p ys ∧ ∀ l, H l = none → Q (.ref l) (upd H l (.tup ys))) ∨ (SqT K H p ys ∧ Q (.ref p) H))
def rAbs : List V → Hp → VK → Prop := fun xs H Q => ∃ i, xs = [.int i] ∧ Q (.int (if i < 0 then -i else i)) H
def rMax2 : List V → Hp → VK → Prop := fun xs H Q => ∃ i j, xs = [.int i, .int j] ∧ Q (.int (if j > i then j else i)) H
def rMin2 : List V → Hp → VK → Prop := fun xs H Q => ∃ i j, xs = [.int i, .int j] ∧ Q (.int (if j < i then j else i)) H
def rInt1 : List V → Hp → VK → Prop := fun xs H Q => (∃ i, xs = [.int i] ∧ Q (.int i) H) ∨ ∃ k, xs = [.bl k] ∧ Q (.int (if k then 1 else 0)) H
section
variable {X : Cx}
theorem cb_len : CallR X (.builtin "len") (rLen X.K) := call_len_seq
theorem cb_list : CallR X (.type "list") (rListOf X.K) := call_list_of
theorem cb_tuple : CallR X (.type "tuple") (rTupleOf X.K) := call_tuple_of
theorem cb_abs : CallR X (.builtin "abs") rAbs := call_abs
theorem cb_max2 (hc : X.calm = true) : CallR X (.builtin "max") rMax2 := call_max2 hc
theorem cb_min2 (hc : X.calm = true) : CallR X (.builtin "min") rMin2 := call_min2 hc
theorem cb_int : CallR X (.type "int") rInt1 := call_int1
end
section
variable {X : Cx} {K : PySem.W.Frag} {tg : Expr}
theorem k_len (h : X.K = K) : CallR X (.builtin "len") (rLen K) := h ▸ cb_len
theorem k_list (h : X.K = K) : CallR X (.type "list") (rListOf K) := h ▸ cb_list
theorem k_tuple (h : X.K = K) : CallR X (.type "tuple") (rTupleOf K) := h ▸ cb_tuple
theorem k_all (h : X.K = K) (hc : X.calm = true) : CallR X (.builtin "all") (rAll K) := h ▸ cr_all hc
theorem k_any (h : X.K = K) (hc : X.calm = true) : CallR X (.builtin "any") (rAny K) := h ▸ cr_any hc
theorem k_sum (h : X.K = K) (hc : X.calm = true) : CallR X (.builtin "sum") (rSum K) := h ▸ cr_sum hc
theorem k_isi (h : X.K = K) : CallR X (.builtin "isinstance") (rIsi K) := h ▸ call_isi
theorem k_ixL (h : X.K = K) : IxR X (rIxL K) := h ▸ ix_list
theorem k_ixT (h : X.K = K) : IxR X (rIxT K) := h ▸ ix_tup
theorem k_slL (h : X.K = K) : SlR X (rSlL K) := h ▸ sl_list
theorem k_slT (h : X.K = K) : SlR X (rSlA K) := h ▸ sl_tupA
theorem k_catT (h : X.K = K) : OpR X (binaryOp .Add) (rCatA K) := h ▸ op_catA
theorem k_eqD (h : X.K = K) (hu : X.A.units + 64 < cLine) : OpR X (compareOp .Eq) (rEqD K) := h ▸ op_eqD hu
theorem k_neD (h : X.K = K) (hu : X.A.units + 64 < cLine) : OpR X (compareOp .NotEq) (rNeD K) := h ▸ op_neD hu
theorem k_inS (h : X.K = K) : OpR X (compareOp .In) (rIn K false) := h ▸ op_in_seq
theorem k_niS (h : X.K = K) : OpR X (compareOp .NotIn) (rIn K true) := h ▸ op_notIn_seq
theorem k_piL {l : Expr} {tl : TE} (h : X.K = K) (hl : PE X l tl) : PI X tg l (iList K tl) := h ▸ pi_list hl
theorem k_piT {l : Expr} {tl : TE} (h : X.K = K) (hl : PE X l tl) : PI X tg l (iTup K tl) := h ▸ pi_tup hl
theorem k_piE {e : Expr} {ta : TA} {p pos tpos : Pos} {elts : List Expr} {kk : Nat} (h : X.K = K) (hg : Gl X "enumerate") (hm : X.mg "enumerate" = none) (ha : PA X [e] ta) (hs : starEach [e] X.env = [(false, eval e X.env)] := by rfl) :
    PI X (.Tuple elts kk tpos) (.Call (.Name "enumerate" p) [e] [] pos) (iEnumT K ta) := h ▸ pi_enumT hg hm ha hs
theorem k_piV {e : Expr} {te : TE} {p pos : Pos} (h : X.K = K) (hg : Gl X "reversed") (hm : X.mg "reversed" = none) (he : PE X e te) (hs : starEach [e] X.env = (false, eval e X.env) :: starEach [] X.env := by rfl) : PI X tg (.Call (.Name "reversed" p) [e] [] pos) (RT.iRevA K te) := h ▸ RT.pi_revA hg hm he hs
theorem k_gtup {es : List Expr} {k : Nat} {t : TGs} {n : Nat} {pos : Pos} (h : X.K = K) (hc : X.calm = true) (hp : PGs X es t)
    (hn : (assignEach es X.env).length = n := by rfl) (hst : (assignEach es X.env).findIdx? (·.1) = none := by rfl) : PG X (.Tuple es k pos) (gTup K n t) := h ▸ pg_tup hc hp hn hst
end
section
variable {σ : L2.St} {H : Hp} {Q : VK} {K : PySem.W.Frag} {a p : Addr} {xs : List V} {v : V} {i j : Int} {k n : Nat} {lo hi : Option Int}
theorem w_lenL (h : SqL K H a xs) (q : Q (.int xs.length) H) : rLen K [.ref a] H Q := ⟨a, xs, rfl, .inl h, q⟩
theorem w_lenT (h : SqT K H a xs) (q : Q (.int xs.length) H) : rLen K [.ref a] H Q := ⟨a, xs, rfl, .inr h, q⟩
theorem w_lenLi {p : List Int} (h : H a = some (.lst (ivs p))) (q : Q (.int p.length) H) : rLen K [.ref a] H Q := w_lenL (.of h) (by rw [List.length_map]; exact q)
theorem w_lenTi {p : List Int} (h : SqT K H a (ivs p)) (q : Q (.int p.length) H) : rLen K [.ref a] H Q := w_lenT h (by rw [List.length_map]; exact q)
theorem w_listL (h : SqL K H a xs) (q : ∀ p H', H p = none → Ch [] H H' → H' p = some (.lst xs) → Q (.ref p) H') : rListOf K [.ref a] H Q := ⟨a, xs, rfl, .inl h, w_new q⟩
theorem w_listT (h : SqT K H a xs) (q : ∀ p H', H p = none → Ch [] H H' → H' p = some (.lst xs) → Q (.ref p) H') : rListOf K [.ref a] H Q := ⟨a, xs, rfl, .inr h, w_new q⟩
theorem w_tupleL (h : SqL K H a xs) (q : ∀ p H', H p = none → Ch [] H H' → H' p = some (.tup xs) → Q (.ref p) H') : rTupleOf K [.ref a] H Q := ⟨a, xs, rfl, .inl ⟨h, w_new q⟩⟩
theorem w_tupleT (h : SqT K H a xs) (q : Q (.ref a) H) : rTupleOf K [.ref a] H Q := ⟨a, xs, rfl, .inr ⟨h, q⟩⟩
theorem w_abs (q : Q (.int i.natAbs) H) : rAbs [.int i] H Q := ⟨i, rfl, by
  have e : (if i < 0 then -i else i) = (i.natAbs : Int) := by split <;> omega
  rw [e]
  exact q⟩
theorem w_max2 (q : Q (.int (if j > i then j else i)) H) : rMax2 [.int i, .int j] H Q := ⟨i, j, rfl, q⟩
theorem w_min2 (q : Q (.int (if j < i then j else i)) H) : rMin2 [.int i, .int j] H Q := ⟨i, j, rfl, q⟩
theorem w_int1 (q : Q (.int i) H) : rInt1 [.int i] H Q := .inl ⟨i, rfl, q⟩
theorem w_int1b {b : Bool} (q : Q (.int (if b then 1 else 0)) H) : rInt1 [.bl b] H Q := .inr ⟨b, rfl, q⟩
theorem w_gcd (q : Q (.int (Nat.gcd i.natAbs j.natAbs : Nat)) H) : rGcd [.int i, .int j] H Q := ⟨i, j, rfl, q⟩
/-! slices -/
theorem w_sl {r : V → Option Int → Option Int → Hp → VK → Prop} {te : TE} {tl th : TO} (h : te σ H fun x H1 => tl σ H1 fun l H2 => th σ H2 fun u H3 => r x l u H3 Q) : tSl r te tl th σ H Q := h
theorem w_nopart {R : Option Int → Hp → Prop} (h : R none H) : tNoPart σ H R := h
theorem w_part {t : TE} {R : Option Int → Hp → Prop} (h : t σ H fun x H1 => ∃ i, x = .int i ∧ R (some i) H1) : tPart t σ H R := h
theorem w_slL (h : SqL K H a xs) (q : ∀ p H', H p = none → Ch [] H H' → H' p = some (.lst (cutV xs lo hi)) → Q (.ref p) H') : rSlL K (.ref a) lo hi H Q := ⟨a, xs, rfl, h, w_new q⟩
theorem cutV_whole {xs : List V} {lo hi : Option Int} (h : HT.sIx xs.length 0 lo = 0 ∧ HT.sIx xs.length xs.length hi = xs.length) : cutV xs lo hi = xs := by
  unfold cutV
  rw [h.1, h.2, List.drop_zero, Nat.sub_zero, List.take_length]
theorem w_slT (h : SqT K H a xs) (q : ∀ p H', Ch [] H H' → SqT K H' p (cutV xs lo hi) → Q (.ref p) H') : rSlA K (.ref a) lo hi H Q :=
  ⟨a, xs, rfl, h, fun hw => q a H .refl (by rw [cutV_whole hw]; exact h), fun _ p hp => q p _ (Ch.new hp) (.of upd_same)⟩
/-! targets -/
variable {N : L2.St → Hp → Prop}
theorem w_gname (h : N (σ.set n (some v)) H) : gName n v σ H N := h
theorem w_gsub {to ti : TE} {t : TSet} (h : to σ H fun o H1 => ti σ H1 fun i H2 => t o i v H2 fun H3 => N σ H3) : gSub to ti t v σ H N := h
theorem w_setL {R : Hp → Prop} (h : H a = some (.lst xs)) (hk : i = (k : Int)) (hj : k < xs.length) (q : ∀ H', Ch [a] H H' → H' a = some (.lst (xs.set k v)) → R H') : rSetL (.ref a) (.int i) v H R := by
  subst hk
  refine ⟨a, xs, k, k, rfl, rfl, h, ?_, q _ (Ch.set h) upd_same⟩
  unfold ixN
  rw [if_pos (by omega), if_pos (by omega)]
  rfl
theorem w_gtup {t : TGs} (h : SqT K H a xs) (hl : xs.length = n) (q : t xs σ H N) : gTup K n t (.ref a) σ H N := ⟨a, xs, rfl, h, hl, q⟩
theorem w_gcons {g : TG} {t : TGs} (h : g v σ H fun σ' H' => t xs σ' H' N) : gCons g t (v :: xs) σ H N := ⟨v, xs, rfl, h⟩
theorem w_gnil (h : N σ H) : gNil [] σ H N := ⟨rfl, h⟩
/-! list.append -/
theorem w_bm {T : String} {r : V → List V → Hp → VK → Prop} {to : TE} {t : TA} (h : to σ H fun x H1 => tyV K T x H1 ∧ t σ H1 fun xs H2 => r x xs H2 Q) : tBM K T r to t σ H Q := h
theorem w_append (h : H a = some (.lst xs)) (hl : xs.length < sizeLine) (q : ∀ H', Ch [a] H H' → H' a = some (.lst (xs ++ [v])) → Q .non H') : rAppend (.ref a) [v] H Q := ⟨a, xs, v, rfl, rfl, h, hl, q _ (Ch.set h) upd_same⟩
theorem w_cat {b : Addr} {ys : List V} (h : H a = some (.lst xs)) (h2 : H b = some (.lst ys)) (hl : xs.length + ys.length ≤ sizeLine) (q : ∀ p H', H p = none → Ch [] H H' → H' p = some (.lst (xs ++ ys)) → Q (.ref p) H') : rCat (.ref a) (.ref b) H Q :=
  ⟨a, b, xs, ys, rfl, rfl, h, h2, hl, w_new q⟩
end

/-! ### loops and comprehensions -/
def ForG (J : It) (g : TG) (tb : TS) (N : L2.St → Hp → Prop) (R : VK) (σ : L2.St) (H : Hp) : Prop := ∃ W : Nat → Nat → L2.St → Hp → Prop, (∃ m, W 0 m σ H) ∧ ∀ i m σ H, W i m σ H →
  (J.stop i H ∧ N σ H) ∨ (J.go i H ∧ ∃ M : L2.St → Hp → Prop, (∀ σ' H', M σ' H' → ∃ m', m' < m ∧ W (i + 1) m' σ' H') ∧ ∀ x H', J.yld i H x H' → g x σ H' fun σ2 H2 => tb ⟨M, R, N, M⟩ σ2 H2)
def LcG (J : It) (g : TG) (tt : TT) (te : TE) (vs : List Nat) (σ : L2.St) (H1 : Hp) (Q : VK) : Prop := ∀ D, H1 D = none → ∃ W : Nat → Nat → Hp → Prop, (∃ m, W 0 m (upd H1 D (.lst []))) ∧ ∀ i m H, W i m H →
  (J.stop i H ∧ Q (.ref D) H) ∨ (J.go i H ∧ ∃ Nx : Hp → Prop, (∀ H', Nx H' → ∃ m', m' < m ∧ W (i + 1) m' H') ∧ ∀ x H', J.yld i H x H' → g x (wipe σ vs) H' fun σ2 H2 => wipe σ2 vs = wipe σ vs ∧ tt σ2 H2 fun b H3 =>
    if b = true then te σ2 H3 fun y H4 => ∃ acc, H4 D = some (.lst acc) ∧ acc.length < sizeLine ∧ Nx (upd H4 D (.lst (acc ++ [y]))) else Nx H3)
section
variable {σ : L2.St} {H : Hp} {Q : VK} {K : PySem.W.Frag} {a p : Addr} {xs : List V} {v : V} {i j lo : Int} {n : Nat} {N B C : L2.St → Hp → Prop} {R : VK} {g : TG} {tb : TS} {wi : TI} {tt : TT} {te : TE} {vs : List Nat} {J : It}
theorem w_for (h : wi σ H fun J H1 => ForG J g tb N R σ H1) : tFor wi g tb ⟨N, R, B, C⟩ σ H := h
theorem w_lc (h : wi σ H fun J H1 => LcG J g tt te vs σ H1 Q) : tLc wi g tt te vs σ H Q := h
theorem w_while {c : TT} (W : Nat → L2.St → Hp → Prop) (m : Nat) (w0 : W m σ H) (turn : ∀ m σ H, W m σ H → c σ H fun b' H1 => if b' = true then ∃ M : L2.St → Hp → Prop, (∀ σ' H', M σ' H' → ∃ m', m' < m ∧ W m' σ' H') ∧ tb ⟨M, R, N, M⟩ σ H1 else N σ H1) : tWhile c tb ⟨N, R, B, C⟩ σ H :=
  ⟨W, ⟨m, w0⟩, turn⟩
theorem w_iL {tl : TE} {S : It → Hp → Prop} (h : tl σ H fun x H1 => ∃ a, x = .ref a ∧ (∃ xs, SqL K H1 a xs) ∧ S (Itl K a) H1) : iList K tl σ H S := h
theorem w_iT {tl : TE} {S : It → Hp → Prop} (h : tl σ H fun x H1 => ∃ a, x = .ref a ∧ (∃ xs, SqT K H1 a xs) ∧ S (Itt K a) H1) : iTup K tl σ H S := h
theorem w_iLr {S : Addr → Prop} (h : SqL K H a xs) (q : S a) : ∃ a', V.ref a = .ref a' ∧ (∃ xs, SqL K H a' xs) ∧ S a' := ⟨a, rfl, ⟨xs, h⟩, q⟩
theorem w_iTr {S : Addr → Prop} (h : SqT K H a xs) (q : S a) : ∃ a', V.ref a = .ref a' ∧ (∃ xs, SqT K H a' xs) ∧ S a' := ⟨a, rfl, ⟨xs, h⟩, q⟩
theorem w_iR1 {tr : TA} {S : It → Hp → Prop} (h : tr σ H fun vs H1 => ∃ j : Int, vs = [.int j] ∧ -(2 ^ 62) ≤ j ∧ j < 2 ^ 62 ∧ S (Itr 0 j.toNat) H1) : iRng1 tr σ H S := h
theorem w_iR1r {S : Int → Prop} (h1 : -(2 ^ 62) ≤ j) (h2 : j < 2 ^ 62) (q : S j) : ∃ j' : Int, [V.int j] = [.int j'] ∧ -(2 ^ 62) ≤ j' ∧ j' < 2 ^ 62 ∧ S j' := ⟨j, rfl, h1, h2, q⟩
theorem w_iR2 {tr : TA} {S : It → Hp → Prop} (h : tr σ H fun vs H1 => ∃ i j : Int, vs = [.int i, .int j] ∧ (-(2 ^ 62) ≤ i ∧ i < 2 ^ 62 ∧ -(2 ^ 62) ≤ j ∧ j < 2 ^ 62) ∧ S (Itr i (j - i).toNat) H1) : iRng2 tr σ H S := h
theorem w_iR2r {S : Int → Int → Prop} (h : -(2 ^ 62) ≤ i ∧ i < 2 ^ 62 ∧ -(2 ^ 62) ≤ j ∧ j < 2 ^ 62) (q : S i j) : ∃ i' j' : Int, [V.int i, V.int j] = [.int i', .int j'] ∧ (-(2 ^ 62) ≤ i' ∧ i' < 2 ^ 62 ∧ -(2 ^ 62) ≤ j' ∧ j' < 2 ^ 62) ∧ S i' j' := ⟨i, j, rfl, h, q⟩
theorem w_iE {tr : TA} {S : It → Hp → Prop} (h : tr σ H fun vs H1 => ∃ a xs, vs = [.ref a] ∧ SqT K H1 a xs ∧ S (IteT K a xs.length) H1) : iEnumT K tr σ H S := h
theorem w_iEr {S : Addr → List V → Prop} (h : SqT K H a xs) (q : S a xs) : ∃ a' xs', [V.ref a] = [.ref a'] ∧ SqT K H a' xs' ∧ S a' xs' := ⟨a, xs, rfl, h, q⟩
theorem w_iV {S : It → Hp → Prop} {tl : TE} (h : tl σ H fun v H1 => ∃ (a : Addr) (xs : List V), v = .ref a ∧ ((SqL K H1 a xs ∧ S (Itv K a xs.length) H1) ∨ (SqT K H1 a xs ∧ S (RT.ItvT K a xs.length) H1))) : RT.iRevA K tl σ H S := h
theorem w_iVr {S1 S2 : Addr → List V → Prop} (h : SqT K H a xs) (q : S2 a xs) : ∃ (a' : Addr) (xs' : List V), V.ref a = .ref a' ∧ ((SqL K H a' xs' ∧ S1 a' xs') ∨ (SqT K H a' xs' ∧ S2 a' xs')) := ⟨a, xs, rfl, .inr ⟨h, q⟩⟩
/-- a for, by what it walks -/
theorem for_w {G : Hp → Prop} {Y : Nat → Hp → V → Hp → Prop} (w : Walk J n G Y) (Pv : Nat → L2.St → Hp → Prop) (h0 : Pv 0 σ H) (hG : ∀ i σ H, i ≤ n → Pv i σ H → G H)
    (hs : ∀ i x σ H H', i < n → Pv i σ H → Y i H x H' → g x σ H' fun σ2 H2 => tb ⟨Pv (i + 1), R, N, Pv (i + 1)⟩ σ2 H2) (hd : ∀ σ H, Pv n σ H → N σ H) : ForG J g tb N R σ H :=
  for_it (D := ⟨N, R, fun _ _ => False, fun _ _ => False⟩) w Pv h0 hG hs hd
theorem for_R (Pv : Nat → L2.St → Hp → Prop) (h0 : Pv 0 σ H) (hs : ∀ i σ H, i < n → Pv i σ H → g (.int (lo + (i : Int))) σ H fun σ2 H2 => tb ⟨Pv (i + 1), R, N, Pv (i + 1)⟩ σ2 H2) (hd : ∀ σ H, Pv n σ H → N σ H) : ForG (Itr lo n) g tb N R σ H :=
  for_range (D := ⟨N, R, fun _ _ => False, fun _ _ => False⟩) Pv h0 hs hd
theorem for_T {xs : List V} (Pv : Nat → L2.St → Hp → Prop) (h0 : Pv 0 σ H) (hl : ∀ i σ H, i ≤ xs.length → Pv i σ H → SqT K H a xs)
    (hs : ∀ i x σ H, xs[i]? = some x → Pv i σ H → g x σ H fun σ2 H2 => tb ⟨Pv (i + 1), R, N, Pv (i + 1)⟩ σ2 H2) (hd : ∀ σ H, Pv xs.length σ H → N σ H) : ForG (Itt K a) g tb N R σ H :=
  for_tup (D := ⟨N, R, fun _ _ => False, fun _ _ => False⟩) Pv h0 hl hs hd
/-- over a tuple of ints -/
theorem for_Ti {ns : List Int} (Pv : Nat → L2.St → Hp → Prop) (h0 : Pv 0 σ H) (hl : ∀ i σ H, i ≤ ns.length → Pv i σ H → SqT K H a (ivs ns))
    (hs : ∀ i x σ H, ns[i]? = some x → Pv i σ H → g (.int x) σ H fun σ2 H2 => tb ⟨Pv (i + 1), R, N, Pv (i + 1)⟩ σ2 H2) (hd : ∀ σ H, Pv ns.length σ H → N σ H) : ForG (Itt K a) g tb N R σ H :=
  for_T (xs := ivs ns) Pv h0 (fun i σ H hi => hl i σ H (by rw [List.length_map] at hi; exact hi)) (fun i x σ H hx hp => by
    obtain ⟨z, hz, rfl⟩ := ivs_get_inv hx
    exact hs i z σ H hz hp) (fun σ H hp => hd σ H (by rw [List.length_map] at hp; exact hp))
/-- for i, x in enumerate(tuple of ints): each turn lays a new pair -/
theorem for_Ei {ns : List Int} (Pv : Nat → L2.St → Hp → Prop) (h0 : Pv 0 σ H) (hl : ∀ i σ H, i ≤ ns.length → Pv i σ H → SqT K H a (ivs ns))
    (hs : ∀ i x σ H T H', ns[i]? = some x → Pv i σ H → H T = none → Ch [] H H' → H' T = some (.tup [.int (i : Nat), .int x]) → g (.ref T) σ H' fun σ2 H2 => tb ⟨Pv (i + 1), R, N, Pv (i + 1)⟩ σ2 H2) (hd : ∀ σ H, Pv ns.length σ H → N σ H) : ForG (IteT K a (ivs ns).length) g tb N R σ H :=
  for_it (D := ⟨N, R, fun _ _ => False, fun _ _ => False⟩) (walk_enumT (xs := ivs ns)) Pv h0 (fun i σ H hi => hl i σ H (by rw [List.length_map] at hi; exact hi)) (fun i x σ H H' hi hp hy => by
    obtain ⟨T, x1, x2, rfl, nT, rfl, e1, e2⟩ := hy
    obtain ⟨z, hz, rfl⟩ := ivs_get_inv e2
    cases e1
    exact hs i z σ H T _ hz hp nT (Ch.new nT) upd_same) (fun σ H hp => hd σ H (by rw [List.length_map] at hp; exact hp))
/-- for x in reversed(tuple of ints) -/
theorem for_Vi {ns : List Int} (Pv : Nat → L2.St → Hp → Prop) (h0 : Pv 0 σ H) (hl : ∀ i σ H, Pv i σ H → SqT K H a (ivs ns))
    (hs : ∀ i x σ H, i < ns.length → ns[ns.length - 1 - i]? = some x → Pv i σ H → g (.int x) σ H fun σ2 H2 => tb ⟨Pv (i + 1), R, N, Pv (i + 1)⟩ σ2 H2) (hd : ∀ σ H, Pv ns.length σ H → N σ H) : ForG (RT.ItvT K a (ivs ns).length) g tb N R σ H :=
  RT.for_ItvT (D := ⟨N, R, fun _ _ => False, fun _ _ => False⟩) (xs := ivs ns) Pv h0 hl (fun i x σ H hi hx hp => by
    rw [List.length_map] at hi hx
    obtain ⟨z, hz, rfl⟩ := ivs_get_inv hx
    exact hs i z σ H hi hz hp) (fun σ H hp => hd σ H (by rw [List.length_map] at hp; exact hp))

theorem wipe1 {σ : L2.St} {i : Nat} {o : Option V} : wipe ((wipe σ [i]).set i o) [i] = wipe σ [i] := by
  show ((σ.set i none).set i o).set i none = σ.set i none
  rw [List.set_set, List.set_set]
/-- [e for x in ..], no test: what each turn gives -/
theorem lc_w {G : Hp → Prop} {Y : Nat → Hp → V → Hp → Prop} {i : Nat} (w : Walk J n G Y) (f : Nat → V) (hv : vs = [i]) (hG : ∀ H', Ch [] H H' → G H') (hn : n < 100000)
    (hs : ∀ k x H1 H2, k < n → Ch [] H H1 → Y k H1 x H2 → ∀ S : VK, (∀ H3, Ch [] H1 H3 → S (f k) H3) → te ((wipe σ [i]).set i (some x)) H2 S)
    (hd : ∀ D H', H D = none → Ch [] H H' → H' D = some (.lst ((List.range n).map f)) → Q (.ref D) H') : LcG J (gName i) tYes te vs σ H Q := by
  subst hv
  intro D hD
  refine lc_it w (fun k H' => Ch [] H H' ∧ H' D = some (.lst ((List.range k).map f))) ⟨Ch.new hD, by rw [upd_same]; rfl⟩ (fun k H' hk hp => hG H' hp.1) ?_ (fun H' hp => hd D H' hD hp.1 hp.2)
  rintro k x H1 H2 hk ⟨c1, e1⟩ hy
  refine ⟨wipe1, ?_⟩
  show te _ _ _
  refine hs k x H1 H2 hk c1 hy _ fun H3 c3 => ?_
  refine ⟨_, c3.at0 e1, sz_lt (by rw [List.length_map, List.length_range]; omega), ?_, ?_⟩
  · exact Ch.cut (c1.trans c3) hD (Ch.set (c3.at0 e1))
  · rw [upd_same, List.range_succ, List.map_append]
    rfl
theorem lc_R {i : Nat} (f : Nat → V) (hv : vs = [i]) (hn : n < 100000)
    (hs : ∀ k H1, k < n → Ch [] H H1 → ∀ S : VK, (∀ H3, Ch [] H1 H3 → S (f k) H3) → te ((wipe σ [i]).set i (some (.int (lo + (k : Int))))) H1 S)
    (hd : ∀ D H', H D = none → Ch [] H H' → H' D = some (.lst ((List.range n).map f)) → Q (.ref D) H') : LcG (Itr lo n) (gName i) tYes te vs σ H Q :=
  lc_w (walk_range (lo := lo) (n := n)) f hv (fun _ _ => trivial) hn (fun k x H1 H2 hk c y S q => by
    obtain ⟨e1, e2⟩ := y
    rw [e1, e2]
    exact hs k H1 hk c S q) hd
theorem range_map {ns : List Int} {g : Int → V} : (List.range ns.length).map (fun k => g (ns.getD k 0)) = ns.map g := by
  apply List.ext_getElem?
  intro k
  rw [List.getElem?_map, List.getElem?_map]
  by_cases h : k < ns.length
  · rw [List.getElem?_range h, List.getElem?_eq_getElem h]
    simp [List.getD, h]
  · rw [List.getElem?_eq_none (by rw [List.length_range]; omega), List.getElem?_eq_none (by omega)]
    rfl
/-- [e for x in a tuple of ints] -/
theorem lc_Ti {i : Nat} {ns : List Int} (f : Int → V) (hv : vs = [i]) (ht : SqT K H a (ivs ns)) (hn : ns.length < 100000)
    (hs : ∀ x H1, x ∈ ns → Ch [] H H1 → ∀ S : VK, (∀ H3, Ch [] H1 H3 → S (f x) H3) → te ((wipe σ [i]).set i (some (.int x))) H1 S)
    (hd : ∀ D H', H D = none → Ch [] H H' → H' D = some (.lst (ns.map f)) → Q (.ref D) H') : LcG (Itt K a) (gName i) tYes te vs σ H Q := by
  have w : Walk (Itt K a) ns.length (fun H => SqT K H a (ivs ns)) (YAt (ivs ns)) := by
    have q := walk_tup (K := K) (a := a) (xs := ivs ns)
    rw [List.length_map] at q
    exact q
  refine lc_w w (fun k => f (ns.getD k 0)) hv (fun _ c => c.sqT ht) hn (fun k x H1 H2 hk c y S q => ?_) (fun D H' h1 h2 h3 => hd D H' h1 h2 (by rw [h3, range_map]))
  obtain ⟨rfl, hx⟩ := y
  obtain ⟨z, hz, rfl⟩ := ivs_get_inv hx
  refine hs z _ (List.mem_of_getElem? hz) c S fun H3 c3 => ?_
  have e : ns.getD k 0 = z := by
    simp [List.getD, hz]
  have := q H3 c3
  simp only [e] at this
  exact this
end

section
variable {σ : L2.St} {H : Hp} {i j lo c : Int} {n : Nat} {N : L2.St → Hp → Prop} {R : VK} {g : TG} {tb : TS}
theorem w_iR3 {tr : TA} {S : It → Hp → Prop} (h : tr σ H fun vs H1 => ∃ (i j c : Int) (n : Nat), vs = [.int i, .int j, .int c] ∧ RgC i j c n ∧ S (Itc i c n) H1) : iRng3 tr σ H S := h
theorem w_iR3r {S : Int → Int → Nat → Prop} (h : RgC i j c n) (q : S i c n) : ∃ (i' j' c' : Int) (n' : Nat), [V.int i, V.int j, V.int c] = [.int i', .int j', .int c'] ∧ RgC i' j' c' n' ∧ S i' c' n' := ⟨i, j, c, n, rfl, h, q⟩
theorem for_C (Pv : Nat → L2.St → Hp → Prop) (h0 : Pv 0 σ H) (hs : ∀ i σ H, i < n → Pv i σ H → g (.int (lo + (i : Nat) * c)) σ H fun σ2 H2 => tb ⟨Pv (i + 1), R, N, Pv (i + 1)⟩ σ2 H2) (hd : ∀ σ H, Pv n σ H → N σ H) : ForG (Itc lo c n) g tb N R σ H :=
  for_rangeC (D := ⟨N, R, fun _ _ => False, fun _ _ => False⟩) Pv h0 hs hd
end
section
variable {X : Cx} {C : Addr} {bmB : List Value} {B newId initId : String}
/-- X(), an own exception class without own __init__ -/
theorem pmk_own0 {x : Str} {p pos : Pos} (F : ExcBaseFacts B newId initId bmB) (q : PySem.W.excIn X.K C bmB newId = true) (gC : X.mg x = some (.ref C)) (kC : PySem.W.keepIn X.K (.ref C) = true) (r : Raises X (.ref C)) (hg : Gl X x)
    (hdb : (x == ("__debug__" : Str)) = false := by decide) : PMk X (.Call (.Name x p) [] [] pos) (fun _ H Q => Q (.ref C) none H) := by
  intro pins s σ H Q I h
  refine wpAny_Call_Name_kw (ld_glob I hg gC ?_ hdb)
  refine PySem.W.callWith_K0 I.kIn kC ?_
  show wpAny _ _ (call (.ref C) []) _ _ _
  obtain ⟨bm, N, nm, qn, bs, hdct, sn, sub, ab, col, dd, k0, k1, k2, k3, k5, mN, hC, hN, hni, T⟩ := exc_obj I.kIn q
  refine wpAny_call_exc_subT F T hC hN hni (fun h' e hm => ?_) (Nat.zero_le _)
  exact mk_of I hm r h (I.hok.gone hm.new)
end
/-- a def with one default, called with all its arguments -/
structure DefD (K : PySem.W.Frag) (mg : Str → Option Value) (x : Str) (st : Stmt) (ps : List Str) (f : Addr) (fd : FuncData) : Prop where
  fn : ∃ dvs kws, FunD K x x (defArgs st) (defBody st) (defScope st) dvs kws f fd
  mgf : mg x = some (.ref f)
  bi : Binds K fd ps []
section
variable {P : Program} {w : World} {K : PySem.W.Frag} {mg : Str → Option Value} {base : Heap}
theorem cal_ofD {x : Str} {st : Stmt} {f : Addr} {fd : FuncData} {N ps : List Str} {k : Nat} {sp : Sp} (F : DefD K mg x st ps f fd) (S : FnScope N ps (defScope st)) (len : ∀ vs H Q E, sp vs H Q E → vs.length = ps.length)
    (hbody : ∀ (cdv : Value) (A : Around) (outer : List Env) (s : Shared) (H : Hp) (vs : List V) (Q : VK) (E : XK), Room k (A.deeper (envOfC x (defScope st) s.heap.objs.size f cdv)) → sp vs H Q E →
      ∃ t, PSs (cxOf (L2.CX P w) P w K mg base N x (defScope st) f cdv A outer s H E).nox (defBody st) t ∧ t { nx := fun _ H' => Q .non H', rt := Q } (start N vs) H) : Cal P w K mg base (k + 1) x sp := by
  obtain ⟨dvs, kws, F0⟩ := F.fn
  exact ⟨f, fd, ps, F0.ok S len fun cdv A outer s H vs Q E hr h => let ⟨t, h1, h2⟩ := hbody cdv A outer s H vs Q E hr h; ⟨t, h1.nox, h2⟩, F.mgf, F0.kp, F.bi⟩
end

/-- an own exception class over ValueError, without own __init__ -/
structure ExcF (K : PySem.W.Frag) (mg : Str → Option Value) (x : Str) (C : Addr) : Prop where
  xin : PySem.W.excIn K C [.type "ValueError", .type "Exception", .type "BaseException", .type "object"] "ValueError.__new__" = true
  gl : mg x = some (.ref C)
  kp : PySem.W.keepIn K (.ref C) = true
  sub : PySem.W.subIn K (.ref C) (.type "BaseException") = some true
  ty : PySem.W.typeIn K (.ref C) = some (.type "type")

/-! ### truth of a list -/
def tTru (K : PySem.W.Frag) (ta : TE) : TT := fun σ H Q => ta σ H fun x H' => ∃ k, TruV K x H' k ∧ Q k H'
section
variable {X : Cx} {K : PySem.W.Frag}
theorem k_tru {a : Expr} {ta : TE} (h : X.K = K) (ha : PE X a ta) (he : ∀ whole, isTrue a X.env whole = (do let v ← whole; standAt a.pos; holding [v] (truthy v)) := by intro _; rfl) : PT X a (tTru K ta) := h ▸ pt_truth ha he
variable {σ : L2.St} {H : Hp} {ta : TE} {a : Addr} {xs : List V}
theorem w_tru {R : Bool → Hp → Prop} (h : ta σ H fun x H' => ∃ k, TruV K x H' k ∧ R k H') : tTru K ta σ H R := h
theorem w_truL {R : Bool → Prop} (h : SqL K H a xs) (q : R (!xs.isEmpty)) : ∃ k, TruV K (.ref a) H k ∧ R k := ⟨_, .inl ⟨xs, h, rfl⟩, q⟩
theorem w_truT {R : Bool → Prop} (h : SqT K H a xs) (q : R (!xs.isEmpty)) : ∃ k, TruV K (.ref a) H k ∧ R k := ⟨_, .inr (.inl ⟨xs, h, rfl⟩), q⟩
end

theorem w_bits {σ : L2.St} {H : Hp} {to : TE} {Q : VK} (h : to σ H fun x H1 => ∃ i, x = .int i ∧ Q (.int (Builtin.Int.intBits i : Nat)) H1) : tBits to σ H Q := h
end My
/-! what the end needs of the written part: defs, defaults, classes -/
namespace My
open PySem PySem.Spec PyProof.Rows L2
section
variable {K : PySem.W.Frag} {h : Heap} {mg : Str → Option Value}
theorem def_mk {x : Str} {st : Stmt} {ps : List Str} {f : Addr} {oc : Value} {od an : Option Addr} {osl : Array (Option Value)} {kV doc pm cdv ct : Value} (X : K.In h) (G : h.Ns mainGlobals mg)
    (a : PySem.W.nsIn K mainGlobals x = some (some (.ref f))) (l : K.lookup f = some ⟨oc, od, .func (PySem.W.fnOf x x (defArgs st) (defBody st) (defScope st) .none kV doc pm an cdv ct), osl⟩)
    (c : PySem.W.codeIn K cdv x = true) (k : PySem.W.keepIn K (.ref f) = true)
    (b : ∀ (kV doc pm : Value) (an : Option Addr) (cdv ct : Value) (us : List Value), us.length = ps.length → bindArgs (PySem.W.fnOf x x (defArgs st) (defBody st) (defScope st) .none kV doc pm an cdv ct) ⟨us, []⟩ = pure (ps.zip us)) :
    DefF K mg x st ps f (PySem.W.fnOf x x (defArgs st) (defBody st) (defScope st) .none kV doc pm an cdv ct) :=
  ⟨fun_mk l c k, PySem.W.mg_of X G a, (fun_mk (st := st) l c k).binds b⟩
theorem defd_mk {x : Str} {st : Stmt} {ps : List Str} {dvs : List V} {f T : Addr} {oc : Value} {od an td : Option Addr} {osl tsl : Array (Option Value)} {kV doc pm cdv ct tc : Value} {its : List Value} {n : Nat} (X : K.In h) (G : h.Ns mainGlobals mg)
    (a : PySem.W.nsIn K mainGlobals x = some (some (.ref f))) (l : K.lookup f = some ⟨oc, od, .func (PySem.W.fnOf x x (defArgs st) (defBody st) (defScope st) (.ref T) kV doc pm an cdv ct), osl⟩)
    (c : PySem.W.codeIn K cdv x = true) (k : PySem.W.keepIn K (.ref f) = true) (t : K.lookup T = some ⟨tc, td, .seq its.toArray n, tsl⟩) (d : Vals dvs its) (d0 : dvs ≠ [])
    (b : ∀ (T : Addr) (kV doc pm : Value) (an : Option Addr) (cdv ct : Value) (us its : List Value), us.length = ps.length → its.length = dvs.length →
      ∃ k, bindArgs (PySem.W.fnOf x x (defArgs st) (defBody st) (defScope st) (.ref T) kV doc pm an cdv ct) ⟨us, []⟩ = seqItems? (.ref T) >>= k ∧ k (some its.toArray) = pure (ps.zip (us ++ its.drop dvs.length))) :
    DefD K mg x st ps f (PySem.W.fnOf x x (defArgs st) (defBody st) (defScope st) (.ref T) kV doc pm an cdv ct) := by
  have F : FunD K x x (defArgs st) (defBody st) (defScope st) dvs [] f (PySem.W.fnOf x x (defArgs st) (defBody st) (defScope st) (.ref T) kV doc pm an cdv ct) :=
    ⟨⟨_, _, _, _, _, _, _, _, _, _, rfl, l, c, .inr ⟨d0, T, _, its, n, rfl, t, rfl, d⟩, .inl rfl⟩, k⟩
  refine ⟨⟨_, _, F⟩, PySem.W.mg_of X G a, ?_⟩
  obtain ⟨ds, v, B⟩ := F.binds1 ps.length dvs.length d0 (by rw [Nat.sub_self]; rfl) b
  rw [List.drop_length] at v
  cases v
  exact B
theorem exc_mk {x : Str} {C : Addr} (X : K.In h) (G : h.Ns mainGlobals mg) (a : PySem.W.nsIn K mainGlobals x = some (some (.ref C))) (i : PySem.W.excIn K C [.type "ValueError", .type "Exception", .type "BaseException", .type "object"] "ValueError.__new__" = true)
    (k : PySem.W.keepIn K (.ref C) = true) (s : PySem.W.subIn K (.ref C) (.type "BaseException") = some true) (t : PySem.W.typeIn K (.ref C) = some (.type "type")) : ExcF K mg x C := ⟨i, PySem.W.mg_of X G a, k, s, t⟩
end
end My
namespace My
open PySem PySem.Spec PyProof.Rows L2
theorem cx_no {P : Program} {w : World} {st : List Env} {H : Hp} {s s' : Shared} {e : Value} (h : L2.CX P w st H s (fun _ _ _ => False) e s') : False := by
  obtain ⟨_, _, _, _, _, _, _, _, _, _, _, _, z⟩ := h
  exact z
end My
/-! own exceptions with fields; defs called in an except suite; powers of any base -/
namespace My
open PySem PySem.Spec PyProof.Rows L2
/-! ### ** -/
def CPowG (i j : Int) : Prop := 0 ≤ j ∧ (Builtin.Int.intBits i : Int) * j ≤ 2 ^ 27
section
variable {X : Cx}
theorem op_powG : OpR X (binaryOp .Pow) (rI CPowG fun i j => .int (i ^ j.toNat)) := opI fun _ _ _ _ _ _ _ hc q => pow_int hc.1 hc.2 q
end
/-! ### a raise of an own class with its own __init__, no exception in the air -/
section
variable {X : Cx}
theorem pmk_oexN {CXa : CXT} {nm0 : Str} {e : Expr} {es : List Expr} {ta : TA} {p pos : Pos} {C fI : Addr} {k : Nat} {fd : FuncData} {ps : List Str} {sp : Sp} (T : OexC X.K C) (iC : PySem.W.findIn X.K (.ref C) "__init__" = some (some (.ref fI)))
    (tI : PySem.W.typeIn X.K (.ref fI) = some (.type "function")) (F1 : FnOk X.prog X.w X.K X.mg X.base CXa k fI fd ps sp) (hr : Room (k + 1) X.A) (hb : Binds X.K fd ps []) (hx : Passes CXa X (fun _ _ _ => False)) (hg : Gl X nm0) (hm : X.mg nm0 = some (.ref C)) (ha : PA X (e :: es) ta)
    (hdb : (nm0 == ("__debug__" : Str)) = false := by decide) (hst : starEach (e :: es) X.env = (false, eval e X.env) :: starEach es X.env := by rfl) (hpl : (backTo pos (starEach es X.env)).any (·.1) = false := by rfl) :
    L2N.PMk X (.Call (.Name nm0 p) (e :: es) [] pos) (tMkO C sp [] ta) := by
  intro pins s0 σ H0 Q0 J0 hyp
  obtain ⟨nm, q, N, bs, bm, sn, sub, ab, col, dd, k0, k1, k2, k3, k5, hC, hbm⟩ := T.cls
  refine wpAny_Call_Name_kw (ld_glob J0 hg hm ?_ hdb)
  refine PySem.W.callWith_K (h₀ := X.base) J0.ok.mod.kin T.kC (thn (ha.run pos pins s0 σ H0 _ J0 hyp) fun us s1 ⟨vs, Ha, Ja, r1, hz, qa⟩ => ⟨Ja.kIn, ?_⟩) hst hpl
  show wpAny _ _ (call (.ref C) us) _ _ _
  obtain ⟨h0, gn, dw, tk, os⟩ := s1
  let h1 : Heap := (h0.push (PySem.W.kdv_tup us)).push (PySem.HandSPX.excO C h0.objs.size)
  let ad : Addr := h0.objs.size + 1
  have fresh : Ha ad = none := Ja.hok.fresh (Nat.le_succ _)
  have qb := qa ad fresh
  rw [List.append_nil] at qb
  have keep : ∀ b o, h0.get? b = some o → h1.get? b = some o := fun b o z => Heap.get?_push_of_some _ (Heap.get?_push_of_some _ z)
  have there : h1.get? ad = some (PySem.HandSPX.excO C h0.objs.size) := by
    show Heap.get? ((h0.push (PySem.W.kdv_tup us)).push (PySem.HandSPX.excO C h0.objs.size)) (h0.objs.size + 1) = _
    heap_get
  have Jb : Inv X pins σ (upd Ha ad (exo ad C none)) ⟨h1, gn, dw, tk, os⟩ := Ja.laid (t' := tk) (a := ad) (o := exo ad C none) (h' := h1) keep (Nat.le_succ _) (exo_ok there)
  have r2 : Vals (V.ref ad :: vs) (Value.ref ad :: us) := .cons rfl r1
  have len1 : (Value.ref ad :: us ++ []).length = ps.length := by
    rw [List.append_nil]
    have z := r2.length
    rw [F1.len _ _ _ _ qb] at z
    exact z.symm
  have few : us.length ≤ sizeLine := by
    rw [sizeLine_eq, ← Paired.length r1]
    omega
  have bind := hb _ (Value.ref ad :: us) Jb.kIn len1
  rw [List.append_nil] at bind
  have made := F1.run _ X.stack _ _ ⟨Value.ref ad :: us, []⟩ (Value.ref ad :: us) _ _ (fun _ _ _ => False) (hr.make C us []) (Jb.env0.make C us []) bind r2 qb
  refine wpAny_call (PySem.HandSPX.call_own F.excBase_ValueError (fun Y => PySem.HandSPX.refsVE_contains Y bm hbm) (Ja.kIn _ _ hC) (PySem.W.looks_findIn Ja.kIn iC) (fun self => PySem.W.bind_fn Ja.kIn self tI) few (codeAny_mono made fun r s' out => ?_))
  cases r with
  | error er => exact hx pins σ _ _ er s' Jb out
  | ok fl =>
    cases fl with
    | next => exact False.elim out
    | brk => exact False.elim out
    | cont => exact False.elim out
    | ret u =>
      obtain ⟨v, Hb, osb, bareb, unb, hokb, rv, ev, d, fs, ea, ed, hd1, qc⟩ := out
      subst ev
      obtain ⟨h2, g2, d2, t2, os'⟩ := s'
      obtain ⟨t0, G, J, kG, ge, hoe, na⟩ := mk_end0 (d2 := d2) (t2 := t2) Ja (Nat.le_succ _) keep unb hokb osb bareb ea ed hd1
      exact ⟨rv, ad, _, _, ⟨G, g2, d2, t2, os'⟩, _, .ref C, some d, rfl, J, kG, ge, hoe, ⟨rfl, rfl, fun vs z => by cases z; rfl⟩, rfl, rfl, na, rfl, bareb, raises_own T.exC T.tyC, qc⟩
end
/-! ### defs that may raise an exception whose context is None -/
theorem passLN {X : Cx} : Passes (L2N.CX X.prog X.w) X E0 := fun _ _ _ _ _ _ _ h => by
  obtain ⟨_, _, _, _, _, _, _, _, _, _, _, _, z⟩ := h
  exact z.elim
theorem takesN0 {X : Cx} : L2N.Takes X (fun _ _ _ _ => False) := fun _ _ x => by
  obtain ⟨_, _, _, _, _, _, _, _, _, _, _, _, _, _, _, _, z⟩ := x
  exact z.elim
structure CalN (P : Program) (w : World) (K : PySem.W.Frag) (mg : Str → Option Value) (base : Heap) (k : Nat) (x : Str) (sp : Sp) : Prop where
  ex : ∃ (f : Addr) (fd : FuncData) (ps : List Str), FnOk P w K mg base (L2N.CX P w) k f fd ps sp ∧ mg x = some (.ref f) ∧ PySem.W.keepIn K (.ref f) = true ∧ Binds K fd ps []
structure CalH (P : Program) (w : World) (K : PySem.W.Frag) (mg : Str → Option Value) (base : Heap) (k : Nat) (x : Str) (sp : Sp) : Prop where
  ex : ∃ (f : Addr) (fd : FuncData) (ps : List Str), L2H.FnH P w K mg base (L2.CX P w) k f fd ps sp ∧ mg x = some (.ref f) ∧ PySem.W.keepIn K (.ref f) = true ∧ Binds K fd ps []
section
variable {P : Program} {w : World} {K : PySem.W.Frag} {mg : Str → Option Value} {base : Heap}
theorem fun_okN {x qual : Str} {st : Stmt} {f : Addr} {fd : FuncData} {N ps : List Str} {k : Nat} {sp : Sp} (F : Fun K x qual st f fd) (S : FnScope N ps (defScope st)) (len : ∀ vs H Q E, sp vs H Q E → vs.length = ps.length)
    (hbody : ∀ (cdv : Value) (A : Around) (outer : List Env) (s : Shared) (H : Hp) (vs : List V) (Q : VK) (E : XK), Room k (A.deeper (envOfC qual (defScope st) s.heap.objs.size f cdv)) → sp vs H Q E →
      ∃ t, PSs (cxOf (L2N.CX P w) P w K mg base N qual (defScope st) f cdv A outer s H E) (defBody st) t ∧ t { nx := fun _ H' => Q .non H', rt := Q } (start N vs) H) : FnOk P w K mg base (L2N.CX P w) (k + 1) f fd ps sp := by
  obtain ⟨oc, od, kV, doc, pm, an, cdv, ct, osl, rfl, lk, hcd⟩ := F.ex
  exact fn_of lk hcd S len fun A outer s H vs Q E hr h => hbody cdv A outer s H vs Q E hr h
theorem cal_ofN {x : Str} {st : Stmt} {f : Addr} {fd : FuncData} {N ps : List Str} {k : Nat} {sp : Sp} (F : DefF K mg x st ps f fd) (S : FnScope N ps (defScope st)) (len : ∀ vs H Q E, sp vs H Q E → vs.length = ps.length)
    (hbody : ∀ (cdv : Value) (A : Around) (outer : List Env) (s : Shared) (H : Hp) (vs : List V) (Q : VK) (E : XK), Room k (A.deeper (envOfC x (defScope st) s.heap.objs.size f cdv)) → sp vs H Q E →
      ∃ t, PSs (cxOf (L2N.CX P w) P w K mg base N x (defScope st) f cdv A outer s H E) (defBody st) t ∧ t { nx := fun _ H' => Q .non H', rt := Q } (start N vs) H) : CalN P w K mg base (k + 1) x sp :=
  ⟨f, fd, ps, fun_okN F.fn S len hbody, F.mgf, F.fn.kp, F.bi⟩
theorem cal_ofH {x : Str} {st : Stmt} {f : Addr} {fd : FuncData} {N ps : List Str} {k : Nat} {sp : Sp} (F : DefF K mg x st ps f fd) (S : FnScope N ps (defScope st)) (len : ∀ vs H Q E, sp vs H Q E → vs.length = ps.length)
    (hbody : ∀ (cdv : Value) (A : Around) (outer : List Env) (s : Shared) (H : Hp) (vs : List V) (Q : VK) (E : XK) (p : Addr × Obj), L2H.Hot1 A p → L2H.RoomH k (A.deeper (envOfC x (defScope st) s.heap.objs.size f cdv)) → sp vs H Q E →
      ∃ t, PSs (L2H.cxH (L2.CX P w) P w K mg base N x (defScope st) f cdv A outer s H E p).nox (defBody st) t ∧ t { nx := fun _ H' => Q .non H', rt := Q } (start N vs) H) : CalH P w K mg base (k + 1) x sp := by
  obtain ⟨oc, od, kV, doc, pm, an, cdv, ct, osl, rfl, lk, hcd⟩ := F.fn.ex
  exact ⟨f, _, ps, L2H.fn_ofH lk hcd S len fun A outer s H vs Q E p hot hr h => let ⟨t, h1, h2⟩ := hbody cdv A outer s H vs Q E p hot hr h; ⟨t, h1.nox, h2⟩, F.mgf, F.fn.kp, F.bi⟩
end
section
variable {X : Cx} {k j : Nat} {x : Str} {sp : Sp} {p pos : Pos} {e : Expr} {es : List Expr} {t : TA}
theorem pe_ccN (c : CalN X.prog X.w X.K X.mg X.base k x sp) (hr : Room j X.A) (hk : k ≤ j) (hg : Gl X x) (ha : PA X (e :: es) t)
    (hdb : (x == ("__debug__" : Str)) = false := by decide) (hst : starEach (e :: es) X.env = (false, eval e X.env) :: starEach es X.env := by rfl) (hpl : (backTo pos (starEach es X.env)).any (·.1) = false := by rfl) :
    PE X (.Call (.Name x p) (e :: es) [] pos) (tCall sp [] E0 t) := by
  obtain ⟨f, fd, ps, F, hm, kp, b⟩ := c.ex
  exact pe_call F (hr.mono hk) hg hm kp b .nil passLN ha hdb hst hpl
theorem pe_ccSN {W : WX} (c : CalN X.prog X.w X.K X.mg X.base k x sp) (hr : Room j X.A) (hk : k ≤ j) (hg : Gl X x) (tk : L2N.Takes X W) (ha : PA X (e :: es) t)
    (hdb : (x == ("__debug__" : Str)) = false := by decide) (hst : starEach (e :: es) X.env = (false, eval e X.env) :: starEach es X.env := by rfl) (hpl : (backTo pos (starEach es X.env)).any (·.1) = false := by rfl) :
    PE X (.Call (.Name x p) (e :: es) [] pos) (tCallS sp (WE W) t) := by
  obtain ⟨f, fd, ps, F, hm, kp, b⟩ := c.ex
  exact pe_callS F (hr.mono hk) hg hm kp b (fun σ => L2N.passAt tk σ) ha hdb hst hpl
theorem pe_ccH (c : CalH X.prog X.w X.K X.mg X.base k x sp) (hr : L2H.RoomH j X.A) (hk : k ≤ j) (hc : L2H.HotC X) (hg : Gl X x) (ha : PA X (e :: es) t)
    (hdb : (x == ("__debug__" : Str)) = false := by decide) (hst : starEach (e :: es) X.env = (false, eval e X.env) :: starEach es X.env := by rfl) (hpl : (backTo pos (starEach es X.env)).any (·.1) = false := by rfl) :
    PE X (.Call (.Name x p) (e :: es) [] pos) (tCallS sp (fun _ => E0) t) := by
  obtain ⟨f, fd, ps, F, hm, kp, b⟩ := c.ex
  exact L2H.pe_callH F (hr.mono hk) hc hg hm kp b (fun σ pins H s u s' I h => by
    obtain ⟨_, _, _, _, _, _, _, _, _, _, _, _, z⟩ := h
    exact z.elim) ha hdb hst hpl
end
/-- in the suite the caught exception is the hot one -/
theorem hot_suite {X : Cx} {a : Addr} {oe : Obj} {cls : Value} {d : Option Addr} {pn : List (Addr × Obj)} (hz : L2N.Zn cls d oe) (hf : ∃ vs, oe.data = .fields vs) : L2H.HotC (X.suite a ((a, oe) :: pn)) := by
  obtain ⟨vs, e⟩ := hf
  exact ⟨(a, oe), ⟨rfl, vs, e, hz.2.2 vs e⟩, List.mem_cons_self⟩
/-! ### isinstance of the caught exception, with or without fields -/
def rIsY (K : PySem.W.Frag) (a : Addr) (cls : Value) (d : Option Addr) (D : Addr) : List V → Hp → VK → Prop := fun xs H Q => ∃ (c : V) (cv : Value) (b : Bool), xs = [.ref a, c] ∧ cls = .ref D ∧ (d = none ∨ ∃ dd fs, d = some dd ∧ H dd = some (.xd fs)) ∧
  (∀ u, RelV c u → u = cv) ∧ PySem.W.kitOne K (.ref D) cv = some b ∧ Q (.bl b) H
theorem inst_xd {X : Cx} {pins : List (Addr × Obj)} {σ : L2.St} {H : Hp} {s : Shared} {a D : Addr} {oe : Obj} {d : Option Addr} {vs : Array Value} (I : Inv X pins σ H s) (hget : s.heap.get? a = some oe) (hz : Zc (.ref D) d oe) (hv : oe.data = .fields vs)
    (hd : d = none ∨ ∃ dd fs, d = some dd ∧ H dd = some (.xd fs)) : ∃ od, PySem.W.InstAt s.heap a oe D od := by
  obtain ⟨oc, odic, oda, osl⟩ := oe
  obtain ⟨h1, h2⟩ := hz
  dsimp only at h1 h2 hv
  subst h1 h2 hv
  rcases hd with e | ⟨dd, fs, e, ea⟩
  · subst e
    exact ⟨none, hget, rfl, rfl, trivial⟩
  · subst e
    obtain ⟨mA, hns, _⟩ := (show ObjOk X.prog X.w H s.heap dd (.xd fs) from I.hok dd _ ea)
    obtain ⟨ob, ho, _⟩ := lookIn_ns hns
    exact ⟨some ob, hget, rfl, rfl, ho⟩
theorem kit_excC {K : PySem.W.Frag} {a D : Addr} {oe : Obj} {od : Option Obj} (C : ExcC K D) : PySem.W.KitX K (.ref a) (.ref D) (fun h => PySem.W.InstAt h a oe D od) := by
  refine PySem.W.kitx_exc ?_ C.hg C.hk C.hs C.ha C.hn C.ht C.hm
  obtain ⟨cd, hc, _⟩ := PySem.W.any_some C.hd
  rw [hc]
  rfl
theorem k_isY {X : Cx} {K : PySem.W.Frag} {a D : Addr} {cls : Value} {d : Option Addr} {oe : Obj} {pn : List (Addr × Obj)} (h : X.K = K) (C : ExcC K D) (hz : Zc cls d oe) (hf : ∃ vs, oe.data = .fields vs) : CallR (X.suite a ((a, oe) :: pn)) (.builtin "isinstance") (rIsY K a cls d D) := by
  subst h
  intro pins s σ H xs us Q I r hyp
  obtain ⟨c, cv, b, rfl, ec, hd, hcv, e, q⟩ := hyp
  subst ec
  cases r with
  | cons rx rr =>
    cases rr with
    | cons rt rr =>
      cases rr
      cases rx
      obtain rfl := hcv _ rt
      obtain ⟨vs, hv⟩ := hf
      obtain ⟨od, J⟩ := inst_xd I (I.pin (a, oe) (List.mem_append.mpr (.inl List.mem_cons_self))).1 hz hv hd
      exact PySem.W.kia_one (kit_excC C) I.kIn J e (fun z => nomatch z) fun tk => ⟨.bl b, H, I.kept (t' := tk) fun _ _ z => z, rfl, q⟩
theorem w_isY {K : PySem.W.Frag} {D a : Addr} {d : Option Addr} {c : V} {cv : Value} {b : Bool} {H : Hp} {Q : VK} (hd : d = none ∨ ∃ dd fs, d = some dd ∧ H dd = some (.xd fs)) (hc : ∀ u, RelV c u → u = cv) (h : PySem.W.kitOne K (.ref D) cv = some b) (q : Q (.bl b) H) :
    rIsY K a (.ref D) d D [.ref a, c] H Q := ⟨c, cv, b, rfl, rfl, hd, hc, h, q⟩
theorem w_xf {a C : Addr} {cls : Value} {d : Option Addr} {f : Str} {te : TE} {σ : L2.St} {H : Hp} {Q : VK} (h : te σ H fun x H1 => x = .ref a ∧ cls = .ref C ∧ ∃ (dd : Addr) (fs : List (Str × V)) (v : V), d = some dd ∧ H1 dd = some (.xd fs) ∧ fs.lookup f = some v ∧ Q v H1) :
    tXf a cls d C f te σ H Q := h
theorem w_callS {sp : Sp} {E : L2.St → XK} {t : TA} {σ : L2.St} {H : Hp} {Q : VK} (h : t σ H fun vs H1 => sp vs H1 Q (E σ)) : tCallS sp E t σ H Q := h
theorem xf_of {K : PySem.W.Frag} {D : Addr} (C : ExcC K D) : XfC K D := ⟨C.hg, C.hk, C.hs, C.hd⟩
/-- an own class with its own __init__ -/
structure OexD (P : Program) (w : World) (K : PySem.W.Frag) (mg : Str → Option Value) (base : Heap) (k : Nat) (x : Str) (C : Addr) (sp : Sp) : Prop where
  T : OexC K C
  gl : mg x = some (.ref C)
  ex : ∃ (fI : Addr) (fd : FuncData) (ps : List Str), PySem.W.findIn K (.ref C) "__init__" = some (some (.ref fI)) ∧ PySem.W.typeIn K (.ref fI) = some (.type "function") ∧ FnOk P w K mg base (L2.CX P w) k fI fd ps sp ∧ Binds K fd ps []
theorem pmk_ox {X : Cx} {k j : Nat} {nm0 : Str} {C : Addr} {sp : Sp} {e : Expr} {es : List Expr} {ta : TA} {p pos : Pos} (O : OexD X.prog X.w X.K X.mg X.base k nm0 C sp) (hr : Room j X.A) (hk : k + 1 ≤ j) (hg : Gl X nm0) (ha : PA X (e :: es) ta)
    (hdb : (nm0 == ("__debug__" : Str)) = false := by decide) (hst : starEach (e :: es) X.env = (false, eval e X.env) :: starEach es X.env := by rfl) (hpl : (backTo pos (starEach es X.env)).any (·.1) = false := by rfl) :
    L2N.PMk X (.Call (.Name nm0 p) (e :: es) [] pos) (tMkO C sp [] ta) := by
  obtain ⟨fI, fd, ps, iC, tI, F, b⟩ := O.ex
  exact pmk_oexN O.T iC tI F (hr.mono hk) b (fun pins σ H s u s' I h => by
    obtain ⟨_, _, _, _, _, _, _, _, _, _, _, _, z⟩ := h
    exact z.elim) hg O.gl ha hdb hst hpl
/-- __init__(self, x, y): two fields -/
def sp_init2 (K : PySem.W.Frag) (C : Addr) (f g : Str) : Sp := fun vs H Q _ => ∃ (a : Addr) (x y : V), vs = [.ref a, x, y] ∧ H a = some (exo a C none) ∧
  ∀ (d : Addr) H', H d = none → d ≠ a → (∀ b, b ≠ a → b ≠ d → H' b = H b) → H' a = some (exo a C (some d)) → H' d = some (exd d [(g, y), (f, x)]) → Q .non H'
def sp_init1 (K : PySem.W.Frag) (C : Addr) (f : Str) : Sp := fun vs H Q _ => ∃ (a : Addr) (x : V), vs = [.ref a, x] ∧ H a = some (exo a C none) ∧
  ∀ (d : Addr) H', H d = none → d ≠ a → (∀ b, b ≠ a → b ≠ d → H' b = H b) → H' a = some (exo a C (some d)) → H' d = some (exd d [(f, x)]) → Q .non H'
theorem w_mkO {C : Addr} {sp : Sp} {ta : TA} {σ : L2.St} {H : Hp} {Q : XK} (h : ta σ H fun vs H1 => vs.length ≤ 1000 ∧ ∀ a, H1 a = none → sp (.ref a :: (vs ++ [])) (upd H1 a (exo a C none))
    (fun v H2 => v = .non ∧ ∃ (d : Addr) (fs : List (Str × V)), H2 a = some (exo a C (some d)) ∧ H2 d = some (exd d fs) ∧ H1 d = none ∧ Q (.ref C) (some d) (upd (del H2 a) d (.xd fs))) (fun _ _ _ => False)) : tMkO C sp [] ta σ H Q := h
theorem made_ch {H1 H' : Hp} {a C d : Addr} {o u : HO} {fs : List (Str × V)} (na : H1 a = none) (hd : upd H1 a o d = none) (da : d ≠ a) (hk : ∀ b, b ≠ a → b ≠ d → H' b = upd H1 a o b) : Ch [] H1 (upd (del H' a) d u) := fun b ob e => by
  have n1 : b ≠ a := ne_of_none e na
  have hd1 : H1 d = none := by rw [upd_ne da] at hd; exact hd
  have n2 : b ≠ d := ne_of_none e hd1
  left
  rw [upd_ne n2, del_ne n1, hk b n1 n2, upd_ne n1]
  exact e
theorem mk2_at {K : PySem.W.Frag} {C : Addr} {f g : Str} {x y : V} {H1 : Hp} {Q : XK} (h : ∀ (d : Addr) H', Ch [] H1 H' → H' d = some (.xd [(g, y), (f, x)]) → Q (.ref C) (some d) H') :
    [x, y].length ≤ 1000 ∧ ∀ a, H1 a = none → sp_init2 K C f g (.ref a :: ([x, y] ++ [])) (upd H1 a (exo a C none))
      (fun v H2 => v = .non ∧ ∃ (d : Addr) (fs : List (Str × V)), H2 a = some (exo a C (some d)) ∧ H2 d = some (exd d fs) ∧ H1 d = none ∧ Q (.ref C) (some d) (upd (del H2 a) d (.xd fs))) (fun _ _ _ => False) :=
  ⟨(show 2 ≤ 1000 by decide), fun a na => ⟨a, x, y, rfl, upd_same, fun d H' hd da hk ha hd2 => ⟨rfl, d, _, ha, hd2, by rw [upd_ne da] at hd; exact hd, h d _ (made_ch (C := C) (fs := []) na hd da hk) upd_same⟩⟩⟩
theorem mk1_at {K : PySem.W.Frag} {C : Addr} {f : Str} {x : V} {H1 : Hp} {Q : XK} (h : ∀ (d : Addr) H', Ch [] H1 H' → H' d = some (.xd [(f, x)]) → Q (.ref C) (some d) H') :
    [x].length ≤ 1000 ∧ ∀ a, H1 a = none → sp_init1 K C f (.ref a :: ([x] ++ [])) (upd H1 a (exo a C none))
      (fun v H2 => v = .non ∧ ∃ (d : Addr) (fs : List (Str × V)), H2 a = some (exo a C (some d)) ∧ H2 d = some (exd d fs) ∧ H1 d = none ∧ Q (.ref C) (some d) (upd (del H2 a) d (.xd fs))) (fun _ _ _ => False) :=
  ⟨(show 1 ≤ 1000 by decide), fun a na => ⟨a, x, rfl, upd_same, fun d H' hd da hk ha hd2 => ⟨rfl, d, _, ha, hd2, by rw [upd_ne da] at hd; exact hd, h d _ (made_ch (C := C) (fs := []) na hd da hk) upd_same⟩⟩⟩
/-! ### the text of such an __init__: self.f = x; self.g = y -/
section
variable {P : Program} {w : World} {K : PySem.W.Frag} {mg : Str → Option Value} {base : Heap} {C fI : Addr} {fd : FuncData} {f g : Str} {st : Stmt} {qual : Str} {p1 p2 p3 p4 p5 p6 p7 p8 : Pos}
theorem exd_upd {H : Hp} {a d C : Addr} {o : HO} (na : H d = none) (da : d ≠ a) : upd (upd H d o) a (exo a C (some d)) d = some o := by rw [upd_ne da, upd_same]
theorem init2_pure {H : Hp} {Q : VK} {x y : V} {a : Addr} (T : OexC K C) (nf : PySem.W.findIn K (.ref C) f = some none) (ng : PySem.W.findIn K (.ref C) g = some none) (ea : H a = some (exo a C none))
    (q : ∀ (d : Addr) H', H d = none → d ≠ a → (∀ b, b ≠ a → b ≠ d → H' b = H b) → H' a = some (exo a C (some d)) → H' d = some (exd d [(g, y), (f, x)]) → Q .non H') :
    tSeq (tOst K f (tVar 0) (tVar 1)) (tOst K g (tVar 0) (tVar 2)) { nx := fun _ H' => Q .non H', rt := Q } [some (.ref a), some x, some y] H := by
  refine ⟨x, rfl, .ref a, rfl, a, C, rfl, T, nf, .inl ⟨ea, fun dx hdx hda => ⟨y, rfl, .ref a, rfl, a, C, rfl, T, ng, .inr ⟨dx, _, upd_same, exd_upd hdx hda, by simp, ?_⟩⟩⟩⟩
  refine q dx _ hdx hda (fun b hb hd => ?_) ?_ upd_same
  · rw [upd_ne hd, upd_ne hb, upd_ne hd]
  · rw [upd_ne (Ne.symm hda), upd_same]
theorem init1_pure {H : Hp} {Q : VK} {x : V} {a : Addr} (T : OexC K C) (nf : PySem.W.findIn K (.ref C) f = some none) (ea : H a = some (exo a C none))
    (q : ∀ (d : Addr) H', H d = none → d ≠ a → (∀ b, b ≠ a → b ≠ d → H' b = H b) → H' a = some (exo a C (some d)) → H' d = some (exd d [(f, x)]) → Q .non H') :
    tOst K f (tVar 0) (tVar 1) { nx := fun _ H' => Q .non H', rt := Q } [some (.ref a), some x] H := by
  refine ⟨x, rfl, .ref a, rfl, a, C, rfl, T, nf, .inl ⟨ea, fun dx hdx hda => ?_⟩⟩
  refine q dx _ hdx hda (fun b hb hd => ?_) upd_same (exd_upd hdx hda)
  rw [upd_ne hb, upd_ne hd]
end
end My
/-! own exceptions held as values: made, asked by isinstance, their fields read -/
namespace My
open PySem PySem.Spec PyProof.Rows L2
/-- an exception of the class at D stands at a -/
def Exv (H : Hp) (a D : Addr) : Prop := H a = some (ExO (.ref D) a) ∨ ∃ d fs, H a = some (exo a D (some d)) ∧ H d = some (exd d fs)
theorem Exv.ch {H H' : Hp} {a D : Addr} (h : Exv H a D) (c : Ch [] H H') : Exv H' a D := by
  rcases h with h | ⟨d, fs, h1, h2⟩
  · exact .inl (c.at0 h)
  · exact .inr ⟨d, fs, c.at0 h1, c.at0 h2⟩
/-- .. with a field f that holds v -/
def Exf (H : Hp) (a D : Addr) (fs : List (Str × V)) : Prop := ∃ d, H a = some (exo a D (some d)) ∧ H d = some (exd d fs)
theorem Exf.ch {H H' : Hp} {a D : Addr} {fs : List (Str × V)} (h : Exf H a D fs) (c : Ch [] H H') : Exf H' a D fs := by
  obtain ⟨d, h1, h2⟩ := h
  exact ⟨d, c.at0 h1, c.at0 h2⟩
theorem Exf.v {H : Hp} {a D : Addr} {fs : List (Str × V)} (h : Exf H a D fs) : Exv H a D := by
  obtain ⟨d, h1, h2⟩ := h
  exact .inr ⟨d, fs, h1, h2⟩
section
variable {X : Cx}
/-- X(), an own class without own __init__, as a value -/
theorem pe_exc0 {C : Addr} {bmB : List Value} {B newId initId : String} {x : Str} {p pos : Pos} (F : ExcBaseFacts B newId initId bmB) (q : PySem.W.excIn X.K C bmB newId = true) (gC : X.mg x = some (.ref C)) (kC : PySem.W.keepIn X.K (.ref C) = true) (hg : Gl X x)
    (hdb : (x == ("__debug__" : Str)) = false := by decide) : PE X (.Call (.Name x p) [] [] pos) (fun _ H Q => ∀ a, H a = none → Q (.ref a) (upd H a (ExO (.ref C) a))) := by
  refine ⟨fun pins s σ H Q I hyp => ?_⟩
  refine wpAny_Call_Name_kw (ld_glob I hg gC ?_ hdb)
  refine PySem.W.callWith_K0 I.kIn kC ?_
  show wpAny _ _ (call (.ref C) []) _ _ _
  obtain ⟨bm, N, nm, qn, bs, hdct, sn, sub, ab, col, dd, k0, k1, k2, k3, k5, mN, hC, hN, hni, T⟩ := exc_obj I.kIn q
  refine wpAny_call_exc_subT F T hC hN hni (fun hq a made => ?_) (Nat.zero_le _)
  have none_ : H a = none := I.hok.gone made.new
  obtain ⟨t, there, _, _⟩ := made.there
  exact ⟨.ref a, upd H a (ExO (.ref C) a), I.laidN made.keeps made.new none_ (exO_ok there ⟨rfl, rfl⟩ rfl rfl rfl (show 4 < 6 by decide)), rfl, hyp a none_⟩
/-- C(e, ..), C's own __init__ keeping sp, as a value -/
def tMkV (C : Addr) (sp : Sp) (ta : TA) : TE := fun σ H Q => ta σ H fun vs H1 => vs.length ≤ 1000 ∧ ∀ a, H1 a = none → sp (.ref a :: (vs ++ [])) (upd H1 a (exo a C none)) (fun v H2 => v = .non ∧ Q (.ref a) H2) fun _ _ _ => False
theorem pe_oexV {CXa : CXT} {nm0 : Str} {e : Expr} {es : List Expr} {ta : TA} {p pos : Pos} {C fI : Addr} {k : Nat} {fd : FuncData} {ps : List Str} {sp : Sp} (T : OexC X.K C) (iC : PySem.W.findIn X.K (.ref C) "__init__" = some (some (.ref fI)))
    (tI : PySem.W.typeIn X.K (.ref fI) = some (.type "function")) (F1 : FnOk X.prog X.w X.K X.mg X.base CXa k fI fd ps sp) (hr : Room (k + 1) X.A) (hb : Binds X.K fd ps []) (hx : Passes CXa X (fun _ _ _ => False)) (hg : Gl X nm0) (hm : X.mg nm0 = some (.ref C)) (ha : PA X (e :: es) ta)
    (hdb : (nm0 == ("__debug__" : Str)) = false := by decide) (hst : starEach (e :: es) X.env = (false, eval e X.env) :: starEach es X.env := by rfl) (hpl : (backTo pos (starEach es X.env)).any (·.1) = false := by rfl) :
    PE X (.Call (.Name nm0 p) (e :: es) [] pos) (tMkV C sp ta) := by
  refine ⟨fun pins s0 σ H0 Q0 J0 hyp => ?_⟩
  obtain ⟨nm, q, N, bs, bm, sn, sub, ab, col, dd, k0, k1, k2, k3, k5, hC, hbm⟩ := T.cls
  refine wpAny_Call_Name_kw (ld_glob J0 hg hm ?_ hdb)
  refine PySem.W.callWith_K (h₀ := X.base) J0.ok.mod.kin T.kC (thn (ha.run pos pins s0 σ H0 _ J0 hyp) fun us s1 ⟨vs, Ha, Ja, r1, hz, qa⟩ => ⟨Ja.kIn, ?_⟩) hst hpl
  show wpAny _ _ (call (.ref C) us) _ _ _
  obtain ⟨h0, gn, dw, tk, os⟩ := s1
  let h1 : Heap := (h0.push (PySem.W.kdv_tup us)).push (PySem.HandSPX.excO C h0.objs.size)
  let ad : Addr := h0.objs.size + 1
  have fresh : Ha ad = none := Ja.hok.fresh (Nat.le_succ _)
  have qb := qa ad fresh
  rw [List.append_nil] at qb
  have keep : ∀ b o, h0.get? b = some o → h1.get? b = some o := fun b o z => Heap.get?_push_of_some _ (Heap.get?_push_of_some _ z)
  have there : h1.get? ad = some (PySem.HandSPX.excO C h0.objs.size) := by
    show Heap.get? ((h0.push (PySem.W.kdv_tup us)).push (PySem.HandSPX.excO C h0.objs.size)) (h0.objs.size + 1) = _
    heap_get
  have Jb : Inv X pins σ (upd Ha ad (exo ad C none)) ⟨h1, gn, dw, tk, os⟩ := Ja.laid (t' := tk) (a := ad) (o := exo ad C none) (h' := h1) keep (Nat.le_succ _) (exo_ok there)
  have r2 : Vals (V.ref ad :: vs) (Value.ref ad :: us) := .cons rfl r1
  have len1 : (Value.ref ad :: us ++ []).length = ps.length := by
    rw [List.append_nil]
    have z := r2.length
    rw [F1.len _ _ _ _ qb] at z
    exact z.symm
  have few : us.length ≤ sizeLine := by
    rw [sizeLine_eq, ← Paired.length r1]
    omega
  have bind := hb _ (Value.ref ad :: us) Jb.kIn len1
  rw [List.append_nil] at bind
  have made := F1.run _ X.stack _ _ ⟨Value.ref ad :: us, []⟩ (Value.ref ad :: us) _ _ (fun _ _ _ => False) (hr.make C us []) (Jb.env0.make C us []) bind r2 qb
  refine wpAny_call (PySem.HandSPX.call_own F.excBase_ValueError (fun Y => PySem.HandSPX.refsVE_contains Y bm hbm) (Ja.kIn _ _ hC) (PySem.W.looks_findIn Ja.kIn iC) (fun self => PySem.W.bind_fn Ja.kIn self tI) few (codeAny_mono made fun r s' out => ?_))
  cases r with
  | error er => exact hx pins σ _ _ er s' Jb out
  | ok fl =>
    cases fl with
    | next => exact False.elim out
    | brk => exact False.elim out
    | cont => exact False.elim out
    | ret u =>
      obtain ⟨v, Hb, Jc, rv, ev, qc⟩ := Jb.after out
      subst ev
      exact ⟨rv, .ref ad, Hb, Jc, rfl, qc⟩
theorem pe_oxV {k j : Nat} {nm0 : Str} {C : Addr} {sp : Sp} {e : Expr} {es : List Expr} {ta : TA} {p pos : Pos} (O : OexD X.prog X.w X.K X.mg X.base k nm0 C sp) (hr : Room j X.A) (hk : k + 1 ≤ j) (hg : Gl X nm0) (ha : PA X (e :: es) ta)
    (hdb : (nm0 == ("__debug__" : Str)) = false := by decide) (hst : starEach (e :: es) X.env = (false, eval e X.env) :: starEach es X.env := by rfl) (hpl : (backTo pos (starEach es X.env)).any (·.1) = false := by rfl) :
    PE X (.Call (.Name nm0 p) (e :: es) [] pos) (tMkV C sp ta) := by
  obtain ⟨fI, fd, ps, iC, tI, F, b⟩ := O.ex
  exact pe_oexV O.T iC tI F (hr.mono hk) b (fun pins σ H s u s' I h => by
    obtain ⟨_, _, _, _, _, _, _, _, _, _, _, _, z⟩ := h
    exact z.elim) hg O.gl ha hdb hst hpl
/-- the instance behind a tracked exception -/
theorem inst_exv {pins : List (Addr × Obj)} {σ : L2.St} {H : Hp} {s : Shared} {a D : Addr} (I : Inv X pins σ H s) (h : Exv H a D) : ∃ oe od, PySem.W.InstAt s.heap a oe D od := by
  rcases h with h | ⟨d, fs, h1, h2⟩
  · obtain ⟨⟨oe, vs, ho, hz, hd, _⟩, _, _⟩ := I.hok a _ h
    obtain ⟨oc, odic, oda, osl⟩ := oe
    obtain ⟨z1, z2⟩ := hz
    dsimp only at z1 z2 hd
    subst z1 z2 hd
    exact ⟨_, none, ho, rfl, rfl, trivial⟩
  · obtain ⟨t1, ho⟩ := exo_at I.hok h1
    obtain ⟨mA, hns, _⟩ := exd_at I.hok h2
    obtain ⟨ob, hob, _⟩ := lookIn_ns hns
    exact ⟨_, some ob, ho, rfl, rfl, hob⟩
def rIsV (K : PySem.W.Frag) : List V → Hp → VK → Prop := fun xs H Q => ∃ (a D : Addr) (c : V) (cv : Value) (b : Bool), xs = [.ref a, c] ∧ Exv H a D ∧ ExcC K D ∧ (∀ u, RelV c u → u = cv) ∧ PySem.W.kitOne K (.ref D) cv = some b ∧ Q (.bl b) H
theorem k_isV {K : PySem.W.Frag} (h : X.K = K) : CallR X (.builtin "isinstance") (rIsV K) := by
  subst h
  intro pins s σ H xs us Q I r hyp
  obtain ⟨a, D, c, cv, b, rfl, hv, C, hcv, e, q⟩ := hyp
  cases r with
  | cons rx rr =>
    cases rr with
    | cons rt rr =>
      cases rr
      cases rx
      obtain rfl := hcv _ rt
      obtain ⟨oe, od, J⟩ := inst_exv I hv
      exact PySem.W.kia_one (kit_excC C) I.kIn J e (fun z => nomatch z) fun tk => ⟨.bl b, H, I.kept (t' := tk) fun _ _ z => z, rfl, q⟩
/-- err.f of a held exception -/
def tXa (K : PySem.W.Frag) (f : Str) (te : TE) : TE := fun σ H Q => te σ H fun x H1 => ∃ (a D : Addr) (fs : List (Str × V)) (v : V), x = .ref a ∧ Exf H1 a D fs ∧ XfC K D ∧ PySem.W.findIn K (.ref D) f = some none ∧ fs.lookup f = some v ∧ Q v H1
theorem pe_xa {K : PySem.W.Frag} {e : Expr} {te : TE} {pos : Pos} {n : Str} (h : X.K = K) (he : PE X e te) (hb : attributeBase e n X.env (eval e X.env) = eval e X.env := by rfl) : PE X (.Attribute e n pos) (tXa K n te) := by
  subst h
  refine ⟨fun pins s σ H Q I hyp => ?_⟩
  refine attr_of hb (thn (he.run pins s σ H _ I hyp) fun u s1 hh => ?_)
  obtain ⟨x, H1, I1, rx, a, D, fs, v, ex, ⟨d, e1, e2⟩, T, hno, l, q⟩ := hh
  subst ex
  obtain rfl : u = Value.ref a := rx
  obtain ⟨t1, ho⟩ := exo_at I1.hok e1
  obtain ⟨mA, hns, hrel⟩ := exd_at I1.hok e2
  obtain ⟨ob, hob, hl⟩ := lookIn_ns hns
  obtain ⟨w, hw, rw'⟩ := RelO.some_of (v := v) (o := mA n) (by rw [← l]; exact hrel n)
  exact HandSPX.exc_get I1.kIn (⟨ho, rfl, rfl, hob⟩ : PySem.W.InstAt s1.heap a _ D (some ob)) T.ga T.gg T.exC (PySem.W.findObj_own T.hdC hno rfl (by rw [hl, hw])) (handed_of rw') ⟨v, H1, I1.tok _, rw', q⟩
end
end My
/-! defs that are called in an except suite with the caught exception itself -/
namespace My
open PySem PySem.Spec PyProof.Rows L2
/-- sp a: the promise where the exception that is handled stands at a; its class is D, without fields -/
structure FnP (P : Program) (w : World) (K : PySem.W.Frag) (mg : Str → Option Value) (base : Heap) (CX : CXT) (k : Nat) (D f : Addr) (fd : FuncData) (ps : List Str) (sp : Addr → Sp) : Prop where
  len : ∀ a vs H Q E, sp a vs H Q E → vs.length = ps.length
  run : ∀ (A : Around) (outer : List Env) (s : Shared) (H : Hp) (args : Args) (us : List Value) (vs : List V) (Q : VK) (E : XK) (p : Addr × Obj), L2H.RoomH k A → L2H.Hot1 A p → Zc (.ref D) none p.2 → L2H.PinOk outer H s p → Env0 P w K mg base A outer s H → BindsTo s fd args (ps.zip us) → Vals vs us → sp p.1 vs H Q E →
    codeAny (model P w) A (.call (.ref f) args) (CR CX outer P w H s Q E) s
theorem fn_ofP {CX : CXT} {P : Program} {w : World} {K : PySem.W.Frag} {mg : Str → Option Value} {base : Heap} {k : Nat} {D f : Addr} {name qual : Str} {params : Arguments} {body : List Stmt} {scope : Scope} {dV kV doc pm cdv ct oc : Value} {an od : Option Addr}
    {osl : Array (Option Value)} {N ps : List Str} {sp : Addr → Sp} (lk : K.lookup f = some ⟨oc, od, .func (PySem.W.fnOf name qual params body scope dV kV doc pm an cdv ct), osl⟩) (code : PySem.W.codeIn K cdv qual = true) (S : FnScope N ps scope)
    (len : ∀ a vs H Q E, sp a vs H Q E → vs.length = ps.length)
    (hbody : ∀ (A : Around) (outer : List Env) (s : Shared) (H : Hp) (vs : List V) (Q : VK) (E : XK) (p : Addr × Obj), L2H.Hot1 A p → Zc (.ref D) none p.2 → L2H.RoomH k (A.deeper (envOfC qual scope s.heap.objs.size f cdv)) → sp p.1 vs H Q E →
      ∃ t, PSs (L2H.cxH CX P w K mg base N qual scope f cdv A outer s H E p) body t ∧ t { nx := fun _ H' => Q .non H', rt := Q } (L2.start N vs) H) :
    FnP P w K mg base CX (k + 1) D f (PySem.W.fnOf name qual params body scope dV kV doc pm an cdv ct) ps sp := by
  refine ⟨len, fun A outer s H args us vs Q E p room hot zc pinOk env0 binds rel hyp => ?_⟩
  have many := len _ _ _ _ _ hyp
  have KX : K.In s.heap := env0.mod.kin.keeps fun b o e => (env0.bs b o e).1
  have lim : s.heap.NoLimit := env0.mod.nolimit.keeps fun b o e => (env0.bs b o e).1
  have kinds : ∀ y ∈ ps.zip us, scope.names.lookup y.1 = some .local ∨ (scope.names.lookup y.1 = some .cell ∧ ((cellsFrom (s.heap.objs.size + 1) scope.names []).lookup y.1).isSome = true) := fun ⟨n, v⟩ hy => by
    rcases S.par n (List.of_mem_zip hy).1 with z | z
    · exact .inl z
    · exact .inr ⟨z, PySem.W.cellsFrom_some _ _ _ (.inl z)⟩
  refine codeAny_call_function room.depth (KX _ _ lk) rfl S.co S.gen rfl (PySem.W.codeRec_of KX code) (binds _ _ _ _ ?_)
  refine wpAny_newFunctionEnv_cells S.kind kinds fun env he s1 x => ?_
  subst he
  refine ⟨lim.keeps x.toInCall.keep, codeAny_func ?_⟩
  obtain ⟨t, ht, hq⟩ := hbody A outer s H vs Q E p hot zc (room.deeper _) hyp
  have J : Inv (L2H.cxH CX P w K mg base N qual scope f cdv A outer s H E p) [] (L2.start N vs) H s1 := L2H.inv_startH S pinOk env0 many rel x
  refine wpAny_mono (ht.run [] s1 (L2.start N vs) H _ J hq) (fun fl s' hs => ?_) fun e s' hs => hs
  have fin : ∀ {σ' : L2.St} {H' : Hp} {v : V} {u : Value}, Inv (L2H.cxH CX P w K mg base N qual scope f cdv A outer s H E p) [] σ' H' s' → RelV v u → Q v H' → CE outer P w H s Q u s' :=
    fun {σ' H' v u} J' rv q => ⟨v, H', J'.os, J'.bare, J'.base, J'.hok, rv, q⟩
  cases fl with
  | ret u =>
    obtain ⟨v, σ', H', J', rv, q⟩ := hs
    exact fin J' rv q
  | next =>
    obtain ⟨σ', H', J', q⟩ := hs
    exact fin (v := V.non) (u := Value.none) J' rfl q
  | brk =>
    obtain ⟨_, _, _, q⟩ := hs
    exact False.elim q
  | cont =>
    obtain ⟨_, _, _, q⟩ := hs
    exact False.elim q
/-- the context bears the handled exception, at a, of the class D -/
def HotP (X : Cx) (a D : Addr) : Prop := ∃ p : Addr × Obj, p.1 = a ∧ L2H.Hot1 X.A p ∧ p ∈ X.pn ∧ Zc (.ref D) none p.2
theorem HotP.hot {X : Cx} {a D : Addr} (h : HotP X a D) : L2H.HotC X := by
  obtain ⟨p, _, h1, h2, _⟩ := h
  exact ⟨p, h1, h2⟩
section
variable {X : Cx} {CX : CXT} {k : Nat} {D f a : Addr} {fd : FuncData} {ps : List Str} {sp : Addr → Sp} {E : L2.St → XK} {x : Str} {q pos : Pos} {e : Expr} {es : List Expr} {t : TA}
theorem run_fnP {pins : List (Addr × Obj)} {σ : L2.St} {H : Hp} {s : Shared} {Q : VK} {us : List Value} {vs : List V} (F : FnP X.prog X.w X.K X.mg X.base CX k D f fd ps sp) (hr : L2H.RoomH k X.A) (hc : HotP X a D) (hb : Binds X.K fd ps []) (hx : PassesAt CX X σ (E σ))
    (I : Inv X pins σ H s) (r : Vals vs us) (h : sp a vs H Q (E σ)) : wpAny (model X.prog X.w) X.A (call (.ref f) us) (EP X pins σ Q) X.xe s := by
  obtain ⟨p, rfl, hot, hp, zc⟩ := hc
  have many : us.length = ps.length := by rw [← r.length]; exact F.len _ _ _ _ _ h
  have b := hb s us I.kIn (by rw [List.append_nil]; exact many)
  rw [List.append_nil] at b
  have P1 := I.pin p (List.mem_append_left _ hp)
  have pinOk : L2H.PinOk X.stack H s p := ⟨P1.1, P1.2.1, fun mm => (List.mem_cons.mp (I.stkSub p.1 mm)).elim P1.2.2.1 P1.2.2.2.1, P1.2.2.2.2⟩
  refine wpAny_call (codeAny_mono (F.run X.A X.stack s H ⟨us, []⟩ us vs Q (E σ) p hr hot zc pinOk I.env0 b r h) fun r s' hq => ?_)
  cases r with
  | error e => exact hx pins H s e s' I hq
  | ok fl =>
    cases fl with
    | ret u => exact I.after hq
    | next => exact False.elim hq
    | brk => exact False.elim hq
    | cont => exact False.elim hq
end
structure CalP (P : Program) (w : World) (K : PySem.W.Frag) (mg : Str → Option Value) (base : Heap) (k : Nat) (D : Addr) (x : Str) (sp : Addr → Sp) : Prop where
  ex : ∃ (f : Addr) (fd : FuncData) (ps : List Str), FnP P w K mg base (L2.CX P w) k D f fd ps sp ∧ mg x = some (.ref f) ∧ PySem.W.keepIn K (.ref f) = true ∧ Binds K fd ps []
theorem FnP.mono {P : Program} {w : World} {K : PySem.W.Frag} {mg : Str → Option Value} {base : Heap} {CX : CXT} {j k : Nat} {D f : Addr} {fd : FuncData} {ps : List Str} {sp : Addr → Sp} (F : FnP P w K mg base CX j D f fd ps sp) (h : j ≤ k) : FnP P w K mg base CX k D f fd ps sp :=
  ⟨F.len, fun A outer s H args us vs Q E p hr => F.run A outer s H args us vs Q E p (hr.mono h)⟩
theorem cal_ofP {P : Program} {w : World} {K : PySem.W.Frag} {mg : Str → Option Value} {base : Heap} {x : Str} {st : Stmt} {D f : Addr} {fd : FuncData} {N ps : List Str} {k : Nat} {sp : Addr → Sp} (F : DefF K mg x st ps f fd) (S : FnScope N ps (defScope st)) (len : ∀ a vs H Q E, sp a vs H Q E → vs.length = ps.length)
    (hbody : ∀ (cdv : Value) (A : Around) (outer : List Env) (s : Shared) (H : Hp) (vs : List V) (Q : VK) (E : XK) (p : Addr × Obj), L2H.Hot1 A p → Zc (.ref D) none p.2 → L2H.RoomH k (A.deeper (envOfC x (defScope st) s.heap.objs.size f cdv)) → sp p.1 vs H Q E →
      ∃ t, PSs (L2H.cxH (L2.CX P w) P w K mg base N x (defScope st) f cdv A outer s H E p).nox (defBody st) t ∧ t { nx := fun _ H' => Q .non H', rt := Q } (start N vs) H) : CalP P w K mg base (k + 1) D x sp := by
  obtain ⟨oc, od, kV, doc, pm, an, cdv, ct, osl, rfl, lk, hcd⟩ := F.fn.ex
  exact ⟨f, _, ps, fn_ofP lk hcd S len fun A outer s H vs Q E p hot zc hr h => let ⟨t, h1, h2⟩ := hbody cdv A outer s H vs Q E p hot zc hr h; ⟨t, h1.nox, h2⟩, F.mgf, F.fn.kp, F.bi⟩
section
variable {X : Cx} {k j : Nat} {D a : Addr} {x : Str} {sp : Addr → Sp} {p pos : Pos} {e : Expr} {es : List Expr} {t : TA}
theorem pe_ccP (c : CalP X.prog X.w X.K X.mg X.base k D x sp) (hr : L2H.RoomH j X.A) (hk : k ≤ j) (hc : HotP X a D) (hg : Gl X x) (ha : PA X (e :: es) t)
    (hdb : (x == ("__debug__" : Str)) = false := by decide) (hst : starEach (e :: es) X.env = (false, eval e X.env) :: starEach es X.env := by rfl) (hpl : (backTo pos (starEach es X.env)).any (·.1) = false := by rfl) :
    PE X (.Call (.Name x p) (e :: es) [] pos) (tCallS (sp a) (fun _ => E0) t) := by
  obtain ⟨f, fd, ps, F, hm, kp, b⟩ := c.ex
  refine ⟨fun pins s σ H Q I hyp => ?_⟩
  refine wpAny_Call_Name_kw (ld_glob I hg hm ?_ hdb)
  refine PySem.W.callWith_K (h₀ := X.base) I.ok.mod.kin kp (thn (ha.run pos pins s σ H _ I hyp) fun us s1 ⟨vs, H1, I1, r, q⟩ => ⟨I1.kIn, ?_⟩) hst hpl
  exact run_fnP (E := fun _ => E0) (F.mono hk) hr hc b (fun pins' H' s' u s2 I' h' => by
    obtain ⟨_, _, _, _, _, _, _, _, _, _, _, _, z⟩ := h'
    exact z.elim) I1 r q
/-- isinstance of the handled exception -/
theorem k_isP {K : PySem.W.Frag} (h : X.K = K) (C : ExcC K D) (hc : HotP X a D) : CallR X (.builtin "isinstance") (rIsE K D a) := by
  subst h
  intro pins s σ H xs us Q I r hyp
  obtain ⟨c, cv, b, rfl, hcv, e, q⟩ := hyp
  obtain ⟨p, rfl, ⟨_, vs, hv, _⟩, hp, zc⟩ := hc
  cases r with
  | cons rx rr =>
    cases rr with
    | cons rt rr =>
      cases rr
      cases rx
      obtain rfl := hcv _ rt
      obtain ⟨od, J⟩ := inst_xd I (I.pin p (List.mem_append_left _ hp)).1 zc hv (.inl rfl)
      exact PySem.W.kia_one (kit_excC C) I.kIn J e (fun z => nomatch z) fun tk => ⟨.bl b, H, I.kept (t' := tk) fun _ _ z => z, rfl, q⟩
end
theorem hotP_suite {X : Cx} {a D : Addr} {oe : Obj} {cls : Value} {d : Option Addr} {pn : List (Addr × Obj)} (h : cls = .ref D ∧ d = none) (hz : L2N.Zn cls d oe) (hf : ∃ vs, oe.data = .fields vs) : HotP (X.suite a ((a, oe) :: pn)) a D := by
  obtain ⟨rfl, rfl⟩ := h
  obtain ⟨vs, e⟩ := hf
  exact ⟨(a, oe), rfl, ⟨rfl, vs, e, hz.2.2 vs e⟩, List.mem_cons_self, hz.zc⟩
theorem pss_under {X : Cx} {A : Prop} {b : List Stmt} {t : TS} (h : A → PSs X b t) : PSs X b (fun D σ H => A ∧ t D σ H) := ⟨fun pins s σ H D I q => (h q.1).run pins s σ H D I q.2⟩
end My
namespace My
open PySem PySem.Spec PyProof.Rows L2
section
variable {X : Cx}
/-- X() raised, an own class without own __init__, nothing in the air -/
theorem pmk_own0N {C : Addr} {bmB : List Value} {B newId initId : String} {x : Str} {p pos : Pos} (F : ExcBaseFacts B newId initId bmB) (q : PySem.W.excIn X.K C bmB newId = true) (gC : X.mg x = some (.ref C)) (kC : PySem.W.keepIn X.K (.ref C) = true) (r : Raises X (.ref C)) (hg : Gl X x)
    (hdb : (x == ("__debug__" : Str)) = false := by decide) : L2N.PMk X (.Call (.Name x p) [] [] pos) (fun _ H Q => Q (.ref C) none H) := by
  intro pins s0 σ H Q0 I hyp
  refine wpAny_Call_Name_kw (ld_glob I hg gC ?_ hdb)
  refine PySem.W.callWith_K0 I.kIn kC ?_
  show wpAny _ _ (call (.ref C) []) _ _ _
  obtain ⟨bm, N, nm, qn, bs, hdct, sn, sub, ab, col, dd, k0, k1, k2, k3, k5, mN, hC, hN, hni, T⟩ := exc_obj I.kIn q
  refine wpAny_call_exc_subT F T hC hN hni (fun hq e made => ?_) (Nat.zero_le _)
  exact L2N.mk_of I made r hyp (I.hok.gone made.new)
end
/-- a def whose last defaults dvs are not written -/
structure CalD (P : Program) (w : World) (K : PySem.W.Frag) (mg : Str → Option Value) (base : Heap) (k : Nat) (x : Str) (dvs : List V) (sp : Sp) : Prop where
  ex : ∃ (f : Addr) (fd : FuncData) (ps : List Str) (ds : List Value), FnOk P w K mg base (L2N.CX P w) k f fd ps sp ∧ mg x = some (.ref f) ∧ PySem.W.keepIn K (.ref f) = true ∧ Binds K fd ps ds ∧ Vals dvs ds
section
variable {X : Cx} {k j : Nat} {x : Str} {sp : Sp} {dvs : List V} {p pos : Pos} {e : Expr} {es : List Expr} {t : TA}
theorem pe_ccD (c : CalD X.prog X.w X.K X.mg X.base k x dvs sp) (hr : Room j X.A) (hk : k ≤ j) (hg : Gl X x) (ha : PA X (e :: es) t)
    (hdb : (x == ("__debug__" : Str)) = false := by decide) (hst : starEach (e :: es) X.env = (false, eval e X.env) :: starEach es X.env := by rfl) (hpl : (backTo pos (starEach es X.env)).any (·.1) = false := by rfl) :
    PE X (.Call (.Name x p) (e :: es) [] pos) (tCall sp dvs E0 t) := by
  obtain ⟨f, fd, ps, ds, F, hm, kp, b, v⟩ := c.ex
  exact pe_call F (hr.mono hk) hg hm kp b v passLN ha hdb hst hpl
end
end My
/-! the classes of errors: who is a kind of whom -/
namespace My
open PySem PySem.Spec PyProof.Rows L2
/-- a class that stands right under E, which stands right under ValueError -/
def ClsM (K : PySem.W.Frag) (E A : Addr) : Prop := ∃ cd, PySem.W.clsIn K A = some cd ∧ cd.mro = [.ref A, .ref E, .type "ValueError", .type "Exception", .type "BaseException", .type "object"]
section
variable {K : PySem.W.Frag} {E A C D : Addr} {mg : Str → Option Value} {as : List Addr} {n i : Nat}
theorem clsM_of {nm q : Str} {N : Addr} {bs : List Value} {sn : List Str} {sub : List Value} {ab : Bool} {col : Option Bool} {dd : Option Addr} {k0 k1 k2 k3 k5 : Option Value} {newId : String} {hd : Bool}
    (h : K.lookup A = some (excClassObj nm q A N bs [.ref E, .type "ValueError", .type "Exception", .type "BaseException", .type "object"] hd sn sub ab col dd k0 k1 k2 k3 k5 newId)) : ClsM K E A := by
  unfold ClsM PySem.W.clsIn
  rw [h]
  exact ⟨_, rfl, rfl⟩
theorem ClsM.sub (m : ClsM K E D) (c : Value) : PySem.W.subIn K (.ref D) c = some ([Value.ref D, .ref E, .type "ValueError", .type "Exception", .type "BaseException", .type "object"].contains c) := by
  obtain ⟨cd, h, e⟩ := m
  show PySem.W.mroIn K D c = _
  unfold PySem.W.mroIn
  rw [h]
  show (if cd.mro.isEmpty = true then none else some (cd.mro.contains c)) = _
  rw [e]
  rfl
theorem ClsM.isSome (m : ClsM K E D) : (PySem.W.clsIn K D).isSome = true := by
  obtain ⟨cd, h, _⟩ := m
  rw [h]
  rfl
theorem kit_cls_ref (m : ClsM K E D) (s : (PySem.W.clsIn K C).isSome = true) (t : PySem.W.typeIn K (.ref C) = some (.type "type")) : PySem.W.kitOne K (.ref D) (.ref C) = some (decide (C = D ∨ C = E)) := by
  unfold PySem.W.kitOne
  by_cases h : D = C
  · subst h
    rw [if_pos (beq_self_eq_true _), decide_eq_true (.inl rfl)]
  · rw [if_neg (fun z => h (by have := eq_of_beq z; injection this))]
    show (if ((PySem.W.clsIn K C).isSome && PySem.W.typeIn K (.ref C) == some (.type "type")) = true then PySem.W.subIn K (.ref D) (.ref C) else none) = _
    rw [s, t]
    show (if (true && (some (Value.type "type") == some (Value.type "type"))) = true then PySem.W.subIn K (.ref D) (.ref C) else none) = _
    rw [if_pos (by simp), m.sub]
    congr 1
    rw [Bool.eq_iff_iff, List.contains_iff_mem, decide_eq_true_iff]
    simp
theorem kit_cls_ve (m : ClsM K E D) : PySem.W.kitOne K (.ref D) (.type "ValueError") = some true := by
  unfold PySem.W.kitOne
  rw [if_neg (fun z => by cases eq_of_beq z)]
  show (if PySem.W.kitMeta "ValueError" = true then PySem.W.subIn K (.ref D) (.type "ValueError") else none) = _
  rw [if_pos (by decide +kernel), m.sub]
  congr 1
def errNames : List Str := ["DivisionByZero", "ZeroPolynomial", "HasQuantifier", "NotOneUnknown", "NothingToUndo", "InvalidPoly", "InvalidStretch", "InvalidText", "InvalidUnknown", "NoUnknown", "HasFree", "Reducible", "NoRoot", "InvalidCode", "TooDeep", "TooLarge", "InvalidPiece", "NoPiece", "InvalidSpot", "Vanishes", "NoCell", "InvalidLine", "InvalidSave", "InvalidName", "Missing", "Circular", "NotASentence"]
/-- the classes of errors stand at the addresses as, their base at E -/
structure ErrT (K : PySem.W.Frag) (mg : Str → Option Value) (E : Addr) (as : List Addr) : Prop where
  g : ∀ {i : Nat} {x : Str} {a : Addr}, errNames[i]? = some x → as[i]? = some a → mg x = some (.ref a)
  gE : mg "CellspireError" = some (.ref E)
  m : ∀ {i : Nat} {a : Addr}, as[i]? = some a → ClsM K E a
  t : ∀ {i : Nat} {a : Addr}, as[i]? = some a → PySem.W.typeIn K (.ref a) = some (.type "type")
  x : ∀ {i : Nat} {a : Addr}, as[i]? = some a → ExcC K a
  nd : as.Nodup
  ne : E ∉ as
  sE : (PySem.W.clsIn K E).isSome = true
  tE : PySem.W.typeIn K (.ref E) = some (.type "type")
theorem ErrT.kit (h : ErrT K mg E as) (hn : as[n]? = some D) (hi : as[i]? = some C) : PySem.W.kitOne K (.ref D) (.ref C) = some (decide (i = n)) := by
  rw [kit_cls_ref (h.m hn) (h.m hi).isSome (h.t hi)]
  congr 1
  rw [decide_eq_decide]
  have hl : i < as.length := (List.getElem?_eq_some_iff.mp hi).1
  refine ⟨fun z => ?_, fun z => ?_⟩
  · rcases z with z | z
    · exact (List.getElem?_inj hl h.nd).mp (by rw [hi, hn, z])
    · exact absurd (List.mem_of_getElem? hi) (by rw [z]; exact h.ne)
  · subst z
    rw [hi] at hn
    exact .inl (Option.some.inj hn)
theorem ErrT.kitE (h : ErrT K mg E as) (hn : as[n]? = some D) : PySem.W.kitOne K (.ref D) (.ref E) = some true := by
  rw [kit_cls_ref (h.m hn) h.sE h.tE, decide_eq_true (.inr rfl)]
theorem ErrT.kitV (h : ErrT K mg E as) (hn : as[n]? = some D) : PySem.W.kitOne K (.ref D) (.type "ValueError") = some true := kit_cls_ve (h.m hn)
variable {H : Hp} {Q : VK} {a : Addr}
theorem w_isV (h : ErrT K mg E as) (hn : as[n]? = some D) (v : Exv H a D) (hi : as[i]? = some C) (q : Q (.bl (decide (i = n))) H) : rIsV K [.ref a, .ref C] H Q := ⟨a, D, .ref C, .ref C, _, rfl, v, h.x hn, fun u r => r, h.kit hn hi, q⟩
theorem w_isVE (h : ErrT K mg E as) (hn : as[n]? = some D) (v : Exv H a D) (q : Q (.bl true) H) : rIsV K [.ref a, .ref E] H Q := ⟨a, D, .ref E, .ref E, _, rfl, v, h.x hn, fun u r => r, h.kitE hn, q⟩
theorem w_isVV (h : ErrT K mg E as) (hn : as[n]? = some D) (v : Exv H a D) (q : Q (.bl true) H) : rIsV K [.ref a, .ty "ValueError"] H Q := ⟨a, D, .ty "ValueError", .type "ValueError", _, rfl, v, h.x hn, fun u r => r, h.kitV hn, q⟩
theorem w_isP (h : ErrT K mg E as) (hn : as[n]? = some D) (hi : as[i]? = some C) (q : Q (.bl (decide (i = n))) H) : rIsE K D a [.ref a, .ref C] H Q := ⟨.ref C, .ref C, _, rfl, fun u r => r, h.kit hn hi, q⟩
theorem w_isPE (h : ErrT K mg E as) (hn : as[n]? = some D) (q : Q (.bl true) H) : rIsE K D a [.ref a, .ref E] H Q := ⟨.ref E, .ref E, _, rfl, fun u r => r, h.kitE hn, q⟩
theorem w_isPV (h : ErrT K mg E as) (hn : as[n]? = some D) (q : Q (.bl true) H) : rIsE K D a [.ref a, .ty "ValueError"] H Q := ⟨.ty "ValueError", .type "ValueError", _, rfl, fun u r => r, h.kitV hn, q⟩
theorem w_neB {b c : Bool} (q : Q (.bl (!decide (b = c))) H) : rNe (.bl b) (.bl c) H Q := ⟨rfl, by
  have e : decide (V.bl b = V.bl c) = decide (b = c) := by
    by_cases z : b = c
    · subst z
      rw [decide_eq_true rfl, decide_eq_true rfl]
    · rw [decide_eq_false z, decide_eq_false fun y => z (V.bl.inj y)]
  rw [e]
  exact q⟩
end
section
variable {X : Cx} {k j : Nat} {x : Str} {sp : Sp} {p pos : Pos}
/-- f() -/
theorem pe_cc0 (c : Cal X.prog X.w X.K X.mg X.base k x sp) (hr : Room j X.A) (hk : k ≤ j) (hg : Gl X x) (hdb : (x == ("__debug__" : Str)) = false := by decide) : PE X (.Call (.Name x p) [] [] pos) (tCall sp [] E0 tNil) := by
  obtain ⟨f, fd, ps, F, hm, kp, b⟩ := c.ex
  exact pe_call0 F (hr.mono hk) hg hm kp b .nil passL hdb
/-- X(), an own class without own __init__, as a value -/
def tExc0 (C : Addr) : TE := fun _ H Q => ∀ a, H a = none → Q (.ref a) (upd H a (ExO (.ref C) a))
theorem pe_exc0t {C : Addr} {bmB : List Value} {B newId initId : String} (F : ExcBaseFacts B newId initId bmB) (q : PySem.W.excIn X.K C bmB newId = true) (gC : X.mg x = some (.ref C)) (kC : PySem.W.keepIn X.K (.ref C) = true) (hg : Gl X x)
    (hdb : (x == ("__debug__" : Str)) = false := by decide) : PE X (.Call (.Name x p) [] [] pos) (tExc0 C) := pe_exc0 F q gC kC hg hdb
theorem exv_new {C : Addr} {σ : L2.St} {H : Hp} {Q : VK} (h : ∀ a H', Ch [] H H' → Exv H' a C → Q (.ref a) H') : tExc0 C σ H Q := fun a na => h a _ (Ch.new na) (.inl upd_same)
end
end My
/-! the head read by a Hook: defs, names, classes of errors -/
namespace My
open PySem PySem.Spec PyProof.Rows L2
section
variable {K : PySem.W.Frag} {h : Heap} {mg : Str → Option Value} {f : Addr} {fd : FuncData}
theorem fun_of {x q : Str} {st : Stmt} (F : FunD K x q (defArgs st) (defBody st) (defScope st) [] [] f fd) : Fun K x q st f fd := by
  obtain ⟨oc, od, dV, kV, doc, pm, an, cdv, ct, osl, e, lk, hcd, hD, hK⟩ := F.ex
  rcases hD with ⟨_, rfl⟩ | ⟨e, _⟩
  · exact ⟨⟨oc, od, kV, doc, pm, an, cdv, ct, osl, e, lk, hcd⟩, F.kp⟩
  · exact absurd rfl e
theorem defF_of {x : Str} {st : Stmt} {ps : List Str} (X : K.In h) (G : h.Ns mainGlobals mg) (g : (He.Fa.glo x).ok K = true) (F : ∃ fd, FunD K x x (defArgs st) (defBody st) (defScope st) [] [] (He.fAd K (x, none)) fd)
    (b : ∀ (kV doc pm : Value) (an : Option Addr) (cdv ct : Value) (us : List Value), us.length = ps.length → bindArgs (PySem.W.fnOf x x (defArgs st) (defBody st) (defScope st) .none kV doc pm an cdv ct) ⟨us, []⟩ = pure (ps.zip us)) :
    ∃ f fd, DefF K mg x st ps f fd ∧ (∀ (s : Shared) (us : List Value), us.length = ps.length → BindsTo s fd ⟨us, []⟩ (ps.zip us)) := by
  obtain ⟨fd, F⟩ := F
  exact ⟨_, fd, ⟨fun_of F, He.glo_ok X G g, F.bindsN b⟩, fun s us hl => F.bindsA b s us hl⟩
/-! ### the classes of errors -/
structure BaseE (K : PySem.W.Frag) (mg : Str → Option Value) (E : Addr) : Prop where
  g : mg "CellspireError" = some (.ref E)
  s : (PySem.W.clsIn K E).isSome = true
  t : PySem.W.typeIn K (.ref E) = some (.type "type")
structure KindE (K : PySem.W.Frag) (mg : Str → Option Value) (E : Addr) (x : Str) (A : Addr) : Prop where
  g : mg x = some (.ref A)
  l : ∃ nm q N bs sn sub ab col dd k0 k1 k2 k3 k5, K.lookup A = some (excClassObj nm q A N bs [.ref E, .type "ValueError", .type "Exception", .type "BaseException", .type "object"] true sn sub ab col dd k0 k1 k2 k3 k5 "ValueError.__new__")
  t : PySem.W.typeIn K (.ref A) = some (.type "type")
  x : ExcC K A
structure OwnI (K : PySem.W.Frag) (q : Str) (C : Addr) (st : Stmt) (ps : List Str) : Prop where
  T : OexC K C
  ex : ∃ (fI : Addr) (fd : FuncData), PySem.W.findIn K (.ref C) "__init__" = some (some (.ref fI)) ∧ PySem.W.typeIn K (.ref fI) = some (.type "function") ∧ Fun K "__init__" q st fI fd ∧ Binds K fd ps []
variable {E A : Addr} {x : Str}
theorem KindE.m (k : KindE K mg E x A) : ClsM K E A := by
  obtain ⟨nm, q, N, bs, sn, sub, ab, col, dd, k0, k1, k2, k3, k5, l⟩ := k.l
  exact clsM_of l
theorem KindE.exm (k : KindE K mg E x A) : PySem.W.exmOne K (.ref A) (.ref A) = some true := PySem.W.exm_ref k.x.hs k.x.hd k.t (by rw [k.m.sub]; congr 1; rw [List.contains_iff_mem]; simp)
theorem KindE.kit {B : Addr} {y : Str} (k : KindE K mg E x A) (l : KindE K mg E y B) (n : B ≠ A) (ne : B ≠ E) : PySem.W.kitOne K (.ref A) (.ref B) = some false := by
  rw [kit_cls_ref k.m l.m.isSome l.t, decide_eq_false (fun z => z.elim n ne)]
theorem KindE.kitE (k : KindE K mg E x A) (b : BaseE K mg E) : PySem.W.kitOne K (.ref A) (.ref E) = some true := by
  rw [kit_cls_ref k.m b.s b.t, decide_eq_true (.inr rfl)]
theorem KindE.kitV (k : KindE K mg E x A) : PySem.W.kitOne K (.ref A) (.type "ValueError") = some true := kit_cls_ve k.m
/-! ### .. looked at -/
theorem baseB_ok (X : K.In h) (G : h.Ns mainGlobals mg) (c : baseB K = true) : BaseE K mg (gE K) := by
  obtain ⟨c1, c2⟩ := He.ba c
  obtain ⟨c3, c4⟩ := He.ba c2
  exact ⟨He.glo_ok X G c1, c3, of_decide_eq_true c4⟩
theorem slB_ok {l : List (Option Value)} (h : slB l = true) : ∃ k0 k1 k2 k3 k5, l = [k0, k1, k2, k3, some (.builtin "ValueError.__new__"), k5] := by
  unfold slB at h
  split at h
  · rename_i a b c d n e
    have := of_decide_eq_true h
    subst this
    exact ⟨_, _, _, _, _, rfl⟩
  · cases h
theorem clsB_ok {C E : Addr} {o : Obj} (c : clsB C E o = true) : ∃ nm q N bs sn sub ab col dd k0 k1 k2 k3 k5, o = excClassObj nm q C N bs [.ref E, .type "ValueError", .type "Exception", .type "BaseException", .type "object"] true sn sub ab col dd k0 k1 k2 k3 k5 "ValueError.__new__" := by
  obtain ⟨oc, od, dt, osl⟩ := o
  cases oc with
  | type t =>
    cases dt with
    | cls cd =>
      obtain ⟨nm, bs, mro, N, q, hd, sn, sub, ab, col, del⟩ := cd
      obtain ⟨l⟩ := osl
      obtain ⟨c1, c2⟩ := He.ba (show (decide (t = "type") && (decide (mro = [.ref C, .ref E, .type "ValueError", .type "Exception", .type "BaseException", .type "object"]) && (hd && (!del && slB l)))) = true from c)
      obtain ⟨c3, c4⟩ := He.ba c2
      obtain ⟨c5, c6⟩ := He.ba c4
      obtain ⟨c7, c8⟩ := He.ba c6
      have e1 := of_decide_eq_true c1
      have e2 := of_decide_eq_true c3
      have e3 : del = false := by simpa using c7
      subst e1 e2 c5 e3
      obtain ⟨k0, k1, k2, k3, k5, e4⟩ := slB_ok c8
      subst e4
      exact ⟨nm, q, N, bs, sn, sub, ab, col, od, k0, k1, k2, k3, k5, rfl⟩
    | _ => cases c
  | _ => cases dt <;> cases c
theorem kindB_ok (X : K.In h) (G : h.Ns mainGlobals mg) (c : kindB K x = true) : KindE K mg (gE K) x (He.ga K x) := by
  obtain ⟨c1, c⟩ := He.ba c
  obtain ⟨c2, c⟩ := He.ba c
  obtain ⟨c3, c⟩ := He.ba c
  obtain ⟨c4, c⟩ := He.ba c
  obtain ⟨c5, c⟩ := He.ba c
  obtain ⟨c6, c⟩ := He.ba c
  obtain ⟨c7, c⟩ := He.ba c
  obtain ⟨c8, c⟩ := He.ba c
  obtain ⟨c9, c⟩ := He.ba c
  obtain ⟨ca, cb⟩ := He.ba c
  refine ⟨He.glo_ok X G c1, ?_, of_decide_eq_true c3, ⟨He.eqO_ok c4, He.eqO_ok c5, of_decide_eq_true c6, c7, He.eqO_ok c8, He.eqO_ok c9, of_decide_eq_true ca, of_decide_eq_true cb⟩⟩
  cases e : K.lookup (He.ga K x) with
  | none =>
    rw [e] at c2
    cases c2
  | some o =>
    rw [e] at c2
    obtain ⟨nm, q, N, bs, sn, sub, ab, col, dd, k0, k1, k2, k3, k5, eo⟩ := clsB_ok c2
    exact ⟨nm, q, N, bs, sn, sub, ab, col, dd, k0, k1, k2, k3, k5, by rw [eo]⟩
theorem excB_ok (k : KindE K mg E x (He.ga K x)) (c : excB K x = true) : ExcF K mg x (He.ga K x) := by
  obtain ⟨c1, c2⟩ := He.ba c
  exact ⟨c1, k.g, c2, k.x.hs, k.t⟩
theorem ownB_ok {q : Str} {st : Stmt} {ps : List Str} (k : KindE K mg E x (He.ga K x)) (c : ownB K x = true) (F : ∃ fd, FunD K "__init__" q (defArgs st) (defBody st) (defScope st) [] [] (He.fAd K (x, some "__init__")) fd)
    (b : ∀ (kV doc pm : Value) (an : Option Addr) (cdv ct : Value) (us : List Value), us.length = ps.length → bindArgs (PySem.W.fnOf "__init__" q (defArgs st) (defBody st) (defScope st) .none kV doc pm an cdv ct) ⟨us, []⟩ = pure (ps.zip us)) : OwnI K q (He.ga K x) st ps := by
  obtain ⟨c1, c⟩ := He.ba c
  obtain ⟨c2, c⟩ := He.ba c
  obtain ⟨c3, c4⟩ := He.ba c
  obtain ⟨fd, F⟩ := F
  obtain ⟨nm, q', N, bs, sn, sub, ab, col, dd, k0, k1', k2, k3, k5, l⟩ := k.l
  exact ⟨⟨⟨nm, q', N, bs, _, sn, sub, ab, col, dd, k0, k1', k2, k3, k5, l, rfl⟩, He.eqO_ok c1, k.x.hs, k.t, c2⟩, _, fd, He.eqO_ok c3, of_decide_eq_true c4, fun_of F, F.bindsN b⟩
theorem noat_ok {f : Str} (c : (He.Fa.noat x f).ok K = true) : PySem.W.findIn K (.ref (He.ga K x)) f = some none := He.eqO_ok c
theorem bltB_ok {n : String} (X : K.In h) (G : h.Ns mainGlobals mg) (c : bltB K x n = true) : mg x = some (.builtin n) := PySem.W.mg_of X G (He.eqO_ok c)
theorem all_at {α : Type} {p : α → Bool} {l : List α} (h : l.all p = true) (i : Nat) {a : α} (e : l[i]? = some a := by rfl) : p a = true := List.all_eq_true.mp h a (List.mem_of_getElem? e)
end
inductive AllE (K : PySem.W.Frag) (mg : Str → Option Value) (E : Addr) : List Str → List Addr → Prop
  | nil : AllE K mg E [] []
  | cons {x : Str} {A : Addr} {xs : List Str} {as : List Addr} (k : KindE K mg E x A) (r : AllE K mg E xs as) : AllE K mg E (x :: xs) (A :: as)
section
variable {K : PySem.W.Frag} {h : Heap} {mg : Str → Option Value} {E : Addr}
theorem AllE.at1 {xs : List Str} {as : List Addr} (a : AllE K mg E xs as) : ∀ {i : Nat} {A : Addr}, as[i]? = some A → ∃ x, xs[i]? = some x ∧ KindE K mg E x A := by
  induction a with
  | nil => intro i A e; cases e
  | cons k r ih =>
    intro i A e
    cases i with
    | zero =>
      cases e
      exact ⟨_, rfl, k⟩
    | succ i => exact ih e
theorem errT_of {as : List Addr} (b : BaseE K mg E) (a : AllE K mg E errNames as) (nd : as.Nodup) (ne : E ∉ as) : ErrT K mg E as where
  g := fun hx ha => by
    obtain ⟨y, hy, k⟩ := a.at1 ha
    rw [hx] at hy
    cases hy
    exact k.g
  gE := b.g
  m := fun ha => (a.at1 ha).elim fun _ h => h.2.m
  t := fun ha => (a.at1 ha).elim fun _ h => h.2.t
  x := fun ha => (a.at1 ha).elim fun _ h => h.2.x
  nd := nd
  ne := ne
  sE := b.s
  tE := b.t
end
/-- a law's end: the written part, the def and its promise told world by world -/
theorem walk_own {l : PySem.W.OpenLaw} {n k : Nat} {q : Program} {loose : List Str} {XP : (Str → Option Value) → Heap → Prop} {YP : World → Heap → Prop} {d : DefRec} {CX : World → CXT} {x : Str}
    (n1 : l.most = some n) (n2 : n ≤ sizeLine) (nd : d.params.defaults = []) (room : Room k callerA)
    (tell : ∀ (w : World) (mg : Str → Option Value) (fa : Addr) (h : Heap), YP w h → h.Ns mainGlobals mg → mg d.name = some (.ref fa) → ∃ (K : PySem.W.Frag) (fd : FuncData) (sp : Sp), K.In h ∧
      (∀ (s : Shared) (u : Value), BindsTo s fd ⟨[u], []⟩ [(x, u)]) ∧ (∀ (H : Hp) (a : Addr) (ns : List Int), ns.length ≤ n → Only H → SqL K H a (ns.map V.int) → sp [.ref a] H (fun v _ => v = .bl true) fun _ _ _ => False) ∧
      ∀ base : Heap, K.In base → base.Ns mainGlobals mg → FnOk l.prog w K mg base (CX w) k fa fd [x] sp)
    (none_ : ∀ (w : World) (H : Hp) (s : Shared) (e : Value) (s' : Shared), CX w [] H s (fun _ _ _ => False) e s' → False) : PySem.W.WalkO q loose XP YP l.row.toRowW d [] (fun f vs => PySem.call f vs) := by
  refine Att.attach_call n1 nd fun w s0 s1 mg mb fa o pm cd doc a vs ns G Y u1 u2 u3 u4 u5 u6 u7 u8 => ?_
  obtain ⟨K, fd, sp, KX, b, p, F⟩ := tell w mg fa _ Y G.T.g u4
  exact law_call KX G.T.g G.T.b G.T.builtins G.T.nolimit u8 u5 u6 (Nat.le_trans u7 n2) room F b (fun H o1 o2 => p H a ns u7 o1 o2) fun H e s' => none_ w H s1 e s'
theorem not_in {a : Addr} {l : List Addr} (h : (!l.contains a) = true) : a ∉ l := fun z => by
  rw [List.contains_iff_mem.mpr z] at h
  cases h
end My
/-! rows as plain lists of ints -/
namespace My
def coef (p : List Int) (i : Nat) : Int := p.getD i 0
theorem coef_nil (i : Nat) : coef [] i = 0 := by simp [coef]
theorem coef_cons_zero (a : Int) (p : List Int) : coef (a :: p) 0 = a := by simp [coef]
theorem coef_cons_succ (a : Int) (p : List Int) (i : Nat) : coef (a :: p) (i + 1) = coef p i := by simp [coef]
theorem coef_ge {p : List Int} {i : Nat} (h : p.length ≤ i) : coef p i = 0 := by
  simp [coef, List.getD, List.getElem?_eq_none h]
theorem coef_lt {p : List Int} {i : Nat} (h : i < p.length) : coef p i = p[i] := by
  simp [coef, h]
theorem coef_get {p : List Int} {i : Nat} {x : Int} (h : p[i]? = some x) : coef p i = x := by
  simp [coef, List.getD, h]
theorem get_coef {p : List Int} {i : Nat} (h : i < p.length) : p[i]? = some (coef p i) := by
  rw [List.getElem?_eq_getElem h, coef_lt h]
theorem coef_mem {p : List Int} {i : Nat} (h : i < p.length) : coef p i ∈ p := by
  rw [coef_lt h]
  exact List.getElem_mem h
theorem coef_take (p : List Int) (n i : Nat) : coef (p.take n) i = if i < n then coef p i else 0 := by
  unfold coef
  simp only [List.getD_eq_getElem?_getD, List.getElem?_take]
  split <;> simp
theorem coef_append (p q : List Int) (i : Nat) : coef (p ++ q) i = if i < p.length then coef p i else coef q (i - p.length) := by
  unfold coef
  simp only [List.getD_eq_getElem?_getD]
  split
  · rename_i h
    rw [List.getElem?_append_left h]
  · rename_i h
    rw [List.getElem?_append_right (by omega)]
theorem coef_set {p : List Int} {j : Nat} (hj : j < p.length) (v : Int) (i : Nat) : coef (p.set j v) i = if i = j then v else coef p i := by
  unfold coef
  simp only [List.getD_eq_getElem?_getD, List.getElem?_set]
  by_cases h : j = i
  · subst h
    simp [hj]
  · rw [if_neg h, if_neg (fun e => h e.symm)]
theorem coef_map {f : Int → Int} (h0 : f 0 = 0) (p : List Int) (i : Nat) : coef (p.map f) i = f (coef p i) := by
  unfold coef
  simp only [List.getD_eq_getElem?_getD, List.getElem?_map]
  cases p[i]? with
  | none => simp [h0]
  | some x => simp
theorem coef_rep (n i : Nat) : coef (List.replicate n 0) i = 0 := by
  unfold coef
  simp only [List.getD_eq_getElem?_getD, List.getElem?_replicate]
  split <;> simp
theorem coef_range (f : Nat → Int) (n i : Nat) : coef ((List.range n).map f) i = if i < n then f i else 0 := by
  unfold coef
  simp only [List.getD_eq_getElem?_getD, List.getElem?_map]
  by_cases h : i < n
  · rw [if_pos h, List.getElem?_range h]
    rfl
  · rw [if_neg h, List.getElem?_eq_none (by rw [List.length_range]; omega)]
    rfl

/-! ### rows -/
def IsRow (p : List Int) : Prop := p.getLast? ≠ some 0
theorem isRow_nil : IsRow [] := by simp [IsRow]
theorem isRow_iff {p : List Int} : IsRow p ↔ (p = [] ∨ coef p (p.length - 1) ≠ 0) := by
  unfold IsRow coef
  rw [List.getLast?_eq_getElem?]
  by_cases h : p = []
  · subst h
    simp
  · have hl : p.length - 1 < p.length := by
      have := List.length_pos_iff.mpr h
      omega
    simp [List.getD, hl, h]
theorem row_ext : ∀ {p q : List Int}, IsRow p → IsRow q → (∀ i, coef p i = coef q i) → p = q := by
  intro p q hp hq h
  have hlen : p.length = q.length := by
    rcases Nat.lt_trichotomy p.length q.length with c | c | c
    · exfalso
      rcases isRow_iff.mp hq with e | e
      · subst e
        simp at c
      · apply e
        rw [← h, coef_ge (by omega)]
    · exact c
    · exfalso
      rcases isRow_iff.mp hp with e | e
      · subst e
        simp at c
      · apply e
        rw [h, coef_ge (by omega)]
  apply List.ext_getElem hlen
  intro i h1 h2
  rw [← coef_lt h1, ← coef_lt h2, h]
def trim : List Int → List Int
  | [] => []
  | a :: p => if a = 0 ∧ trim p = [] then [] else a :: trim p
theorem coef_trim : ∀ (p : List Int) (i : Nat), coef (trim p) i = coef p i
  | [], _ => rfl
  | a :: p, i => by
    unfold trim
    split
    · rename_i h
      cases i with
      | zero => rw [coef_nil, coef_cons_zero, h.1]
      | succ i =>
        rw [coef_cons_succ, ← coef_trim p i, h.2, coef_nil, coef_nil]
    · cases i with
      | zero => rw [coef_cons_zero, coef_cons_zero]
      | succ i => rw [coef_cons_succ, coef_cons_succ, coef_trim p i]
theorem trim_row : ∀ p : List Int, IsRow (trim p)
  | [] => isRow_nil
  | a :: p => by
    unfold trim
    split
    · exact isRow_nil
    · rename_i h
      have ih := trim_row p
      unfold IsRow at ih ⊢
      cases e : trim p with
      | nil =>
        rw [List.getLast?_singleton]
        intro z
        exact h ⟨Option.some.inj z, e⟩
      | cons b r =>
        rw [e] at ih
        rw [List.getLast?_cons_cons]
        exact ih
theorem trim_eq {p q : List Int} (hq : IsRow q) (h : ∀ i, coef p i = coef q i) : trim p = q := row_ext (trim_row p) hq fun i => by rw [coef_trim, h]
theorem trim_congr {p q : List Int} (h : ∀ i, coef p i = coef q i) : trim p = trim q := row_ext (trim_row p) (trim_row q) fun i => by rw [coef_trim, coef_trim, h]
theorem trim_id {p : List Int} (h : IsRow p) : trim p = p := trim_eq h fun _ => rfl
theorem trim_len : ∀ p : List Int, (trim p).length ≤ p.length
  | [] => Nat.le_refl _
  | a :: p => by
    unfold trim
    split
    · exact Nat.zero_le _
    · have := trim_len p
      simp only [List.length_cons]
      omega
/-- cutting at the last that is not zero -/
theorem take_trim {p : List Int} {s : Nat} (hs : s ≤ p.length) (h0 : ∀ i, s ≤ i → coef p i = 0) (h1 : s = 0 ∨ coef p (s - 1) ≠ 0) : p.take s = trim p := by
  symm
  apply trim_eq
  · rw [isRow_iff]
    rcases h1 with e | e
    · left
      rw [e]
      simp
    · by_cases hz : s = 0
      · left
        rw [hz]
        simp
      · right
        rw [List.length_take, Nat.min_eq_left hs, coef_take, if_pos (by omega)]
        exact e
  · intro i
    rw [coef_take]
    split
    · rfl
    · exact h0 i (by omega)
theorem trim_mem {p : List Int} {x : Int} : x ∈ trim p → x ∈ p := by
  induction p with
  | nil => exact id
  | cons a p ih =>
    unfold trim
    split
    · intro h
      simp at h
    · intro h
      rcases List.mem_cons.mp h with e | h
      · rw [e]
        exact List.mem_cons_self ..
      · exact List.mem_cons_of_mem _ (ih h)

/-! ### sum, product -/
def padd : List Int → List Int → List Int
  | [], q => q
  | a :: p, [] => a :: p
  | a :: p, b :: q => (a + b) :: padd p q
theorem coef_padd : ∀ (p q : List Int) (i : Nat), coef (padd p q) i = coef p i + coef q i
  | [], q, i => by rw [coef_nil, Int.zero_add]; rfl
  | a :: p, [], i => by rw [coef_nil, Int.add_zero]; rfl
  | a :: p, b :: q, 0 => by
    show coef ((a + b) :: padd p q) 0 = _
    rw [coef_cons_zero, coef_cons_zero, coef_cons_zero]
  | a :: p, b :: q, i + 1 => by
    show coef ((a + b) :: padd p q) (i + 1) = _
    rw [coef_cons_succ, coef_cons_succ, coef_cons_succ, coef_padd p q i]
theorem padd_len : ∀ p q : List Int, (padd p q).length = max p.length q.length
  | [], q => by simp [padd]
  | a :: p, [] => by simp [padd]
  | a :: p, b :: q => by
    show (padd p q).length + 1 = _
    rw [padd_len p q]
    simp only [List.length_cons]
    omega
def pscale (n : Int) (p : List Int) : List Int := p.map (n * ·)
theorem coef_pscale (n : Int) (p : List Int) (i : Nat) : coef (pscale n p) i = n * coef p i := coef_map (f := (n * ·)) (Int.mul_zero n) p i
def pmul : List Int → List Int → List Int
  | [], _ => []
  | a :: p, q => padd (pscale a q) (0 :: pmul p q)
theorem coef_pmul_cons (a : Int) (p q : List Int) (k : Nat) : coef (pmul (a :: p) q) k = a * coef q k + (if k = 0 then 0 else coef (pmul p q) (k - 1)) := by
  show coef (padd (pscale a q) (0 :: pmul p q)) k = _
  rw [coef_padd, coef_pscale]
  cases k with
  | zero => rw [coef_cons_zero, if_pos rfl]
  | succ k => rw [coef_cons_succ, if_neg (Nat.succ_ne_zero k), Nat.add_sub_cancel]
theorem coef_pmul_app (a : Int) (q : List Int) : ∀ (p : List Int) (k : Nat), coef (pmul (p ++ [a]) q) k = coef (pmul p q) k + (if p.length ≤ k then a * coef q (k - p.length) else 0)
  | [], k => by
    rw [List.nil_append, coef_pmul_cons]
    have e : ∀ j, coef (pmul [] q) j = 0 := fun j => coef_nil j
    rw [e, e, List.length_nil, if_pos (Nat.zero_le k), Nat.sub_zero]
    split <;> omega
  | b :: p, k => by
    rw [List.cons_append, coef_pmul_cons, coef_pmul_cons]
    cases k with
    | zero =>
      rw [if_pos rfl, if_pos rfl, if_neg (by simp)]
      omega
    | succ k =>
      rw [if_neg (Nat.succ_ne_zero k), if_neg (Nat.succ_ne_zero k), Nat.add_sub_cancel, coef_pmul_app a q p k, List.length_cons]
      by_cases h : p.length ≤ k
      · rw [if_pos h, if_pos (by omega), Nat.succ_sub_succ]
        omega
      · rw [if_neg h, if_neg (by omega)]
        omega
theorem coef_pmul_take {p q : List Int} {i : Nat} (hi : i < p.length) (k : Nat) : coef (pmul (p.take (i + 1)) q) k = coef (pmul (p.take i) q) k + (if i ≤ k then coef p i * coef q (k - i) else 0) := by
  have e : p.take (i + 1) = p.take i ++ [coef p i] := by
    rw [List.take_add_one, get_coef hi]
    rfl
  rw [e, coef_pmul_app, List.length_take, Nat.min_eq_left (Nat.le_of_lt hi)]
theorem coef_pmul_set (q : List Int) (v : Int) : ∀ {p : List Int} {j : Nat} (hj : j < p.length) (h0 : coef p j = 0) (k : Nat), coef (pmul (p.set j v) q) k = coef (pmul p q) k + (if j ≤ k then v * coef q (k - j) else 0)
  | [], j, hj, _, _ => absurd hj (by simp)
  | a :: p, 0, _, h0, k => by
    rw [coef_cons_zero] at h0
    subst h0
    rw [List.set_cons_zero, coef_pmul_cons, coef_pmul_cons, if_pos (Nat.zero_le k), Nat.sub_zero]
    omega
  | a :: p, j + 1, hj, h0, k => by
    rw [coef_cons_succ] at h0
    rw [List.set_cons_succ, coef_pmul_cons, coef_pmul_cons]
    have hj' : j < p.length := by
      simp only [List.length_cons] at hj
      omega
    cases k with
    | zero => rw [if_pos rfl, if_pos rfl, if_neg (by omega)]; omega
    | succ k =>
      rw [if_neg (Nat.succ_ne_zero k), if_neg (Nat.succ_ne_zero k), Nat.add_sub_cancel, coef_pmul_set q v hj' h0 k]
      by_cases h : j ≤ k
      · rw [if_pos h, if_pos (by omega), Nat.succ_sub_succ]
        omega
      · rw [if_neg h, if_neg (by omega)]
        omega
theorem coef_pmul_ge : ∀ (p q : List Int) (k : Nat), p.length + q.length ≤ k + 1 → coef (pmul p q) k = 0
  | [], q, k, _ => coef_nil k
  | a :: p, q, k, h => by
    simp only [List.length_cons] at h
    rw [coef_pmul_cons]
    rw [coef_ge (p := q) (by omega)]
    cases k with
    | zero => simp
    | succ k =>
      rw [if_neg (Nat.succ_ne_zero k), Nat.add_sub_cancel, coef_pmul_ge p q k (by omega)]
      omega
theorem coef_pmul_top : ∀ (p q : List Int), p ≠ [] → q ≠ [] → coef (pmul p q) (p.length + q.length - 2) = coef p (p.length - 1) * coef q (q.length - 1)
  | [], _, h, _ => absurd rfl h
  | [a], q, _, hq => by
    have := List.length_pos_iff.mpr hq
    have e : ∀ j, coef (pmul [] q) j = 0 := fun j => coef_nil j
    have ea : [a].length + q.length - 2 = q.length - 1 := by
      simp only [List.length_cons, List.length_nil]
      omega
    rw [ea, coef_pmul_cons, e]
    show a * coef q (q.length - 1) + _ = coef [a] 0 * coef q (q.length - 1)
    rw [coef_cons_zero]
    split <;> omega
  | a :: b :: p, q, _, hq => by
    have hl := List.length_pos_iff.mpr hq
    have ih := coef_pmul_top (b :: p) q (List.cons_ne_nil _ _) hq
    rw [coef_pmul_cons]
    simp only [List.length_cons] at ih ⊢
    rw [coef_ge (p := q) (by omega), if_neg (by omega), show p.length + 1 + 1 + q.length - 2 - 1 = p.length + 1 + q.length - 2 by omega, ih, show p.length + 1 + 1 - 1 = (p.length + 1 - 1) + 1 by omega, coef_cons_succ]
    omega
theorem coef_pmul_nil : ∀ (p : List Int) (k : Nat), coef (pmul p []) k = 0
  | [], k => coef_nil k
  | a :: p, k => by
    rw [coef_pmul_cons, coef_nil]
    split
    · omega
    · rw [coef_pmul_nil p]
      omega
theorem pmul_row {p q : List Int} (hp : IsRow p) (hq : IsRow q) (h1 : p ≠ []) (h2 : q ≠ []) {l : List Int} (hl : l.length = p.length + q.length - 1) (hc : ∀ k, coef l k = coef (pmul p q) k) : IsRow l := by
  have l1 := List.length_pos_iff.mpr h1
  have l2 := List.length_pos_iff.mpr h2
  rw [isRow_iff]
  right
  rw [hl, hc, show p.length + q.length - 1 - 1 = p.length + q.length - 2 by omega, coef_pmul_top p q h1 h2]
  have a := (isRow_iff.mp hp).resolve_left h1
  have b := (isRow_iff.mp hq).resolve_left h2
  exact Int.mul_ne_zero a b
end My
/-! Euclid in few turns -/
namespace My
/-- the i-th turn of Euclid's rule, b below 2 ^ L at first -/
def Euc (L i x y : Nat) : Prop := (i % 2 = 0 → y * 2 ^ (i / 2) < 2 ^ L) ∧ (i % 2 = 1 → x * 2 ^ (i / 2) < 2 ^ L ∧ y < x)
theorem Euc.step {L i x y : Nat} (h : Euc L i x y) (hy : y ≠ 0) : Euc L (i + 1) y (x % y) := by
  have hlt : x % y < y := Nat.mod_lt _ (by omega)
  refine ⟨fun e => ?_, fun e => ?_⟩
  · obtain ⟨h1, h2⟩ := h.2 (by omega)
    have e2 : (i + 1) / 2 = i / 2 + 1 := by omega
    rw [e2, Nat.pow_succ]
    have hm : x % y * 2 ≤ x := by
      have a := Nat.div_add_mod x y
      have b : 1 ≤ x / y := (Nat.le_div_iff_mul_le (by omega)).mpr (by omega)
      have c : y * 1 ≤ y * (x / y) := Nat.mul_le_mul_left y b
      omega
    have hp : 0 < 2 ^ (i / 2) := Nat.two_pow_pos _
    calc x % y * (2 ^ (i / 2) * 2) = x % y * 2 * 2 ^ (i / 2) := by rw [Nat.mul_assoc, Nat.mul_comm 2]
      _ ≤ x * 2 ^ (i / 2) := Nat.mul_le_mul_right _ hm
      _ < 2 ^ L := h1
  · have h1 := h.1 (by omega)
    have e2 : (i + 1) / 2 = i / 2 := by omega
    rw [e2]
    exact ⟨h1, hlt⟩
theorem Euc.zero {L x y : Nat} (h : Euc L (2 * L + 4) x y) : y = 0 := by
  have h1 := h.1 (by omega)
  have e : (2 * L + 4) / 2 = L + 2 := by omega
  rw [e] at h1
  by_cases c : y = 0
  · exact c
  · exfalso
    have a : 1 * 2 ^ (L + 2) ≤ y * 2 ^ (L + 2) := Nat.mul_le_mul_right _ (by omega)
    have b : 2 ^ L ≤ 2 ^ (L + 2) := Nat.pow_le_pow_right (by decide) (by omega)
    omega
end My
namespace My
open PySem PySem.Spec PyProof.Rows L2
/-! ### isinstance -/
section
variable {K : PySem.W.Frag} {H : Hp} {Q : VK} {a : Addr} {xs : List V} {i : Int}
theorem w_isiII (q : Q (.bl true) H) : rIsi K [.int i, .ty "int"] H Q := ⟨_, _, _, _, _, rfl, .ty _, .base (.int i), kit_ty (by decide +kernel), q⟩
theorem w_isiIB (q : Q (.bl false) H) : rIsi K [.int i, .ty "bool"] H Q := ⟨_, _, _, _, _, rfl, .ty _, .base (.int i), kit_ty (by decide +kernel), q⟩
theorem tyT (h : SqT K H a xs) : TyX K H (.ref a) (.type "tuple") := by
  rcases h with (h | ⟨o, h⟩) | ⟨o, its, n, hk, hc, _⟩
  · exact .base (.tup h)
  · exact .fTuple h
  · exact .kTuple hk hc
theorem w_isiTT (h : SqT K H a xs) (q : Q (.bl true) H) : rIsi K [.ref a, .ty "tuple"] H Q := ⟨_, _, _, _, _, rfl, .ty _, tyT h, kit_ty (by decide +kernel), q⟩
theorem w_all {bs : List Bool} (h : SqL K H a (bs.map V.bl)) (q : Q (.bl (bs.all id)) H) : rAll K [.ref a] H Q := ⟨a, bs, rfl, h, q⟩
end
theorem ite_ndf {A B P : Prop} [Decidable P] (p : P) (h : B) : if (!decide P) = true then A else B := by rw [if_neg (by simp [p])]; exact h
theorem ite_ndt {A B P : Prop} [Decidable P] (p : ¬ P) (h : A) : if (!decide P) = true then A else B := by rw [if_pos (by simp [p])]; exact h
theorem abs_pow_lt {a : Int} {b s : Nat} (h : a.natAbs < 2 ^ b) : (a ^ s).natAbs < 2 ^ (b * s + 1) := by
  have e : (a ^ s).natAbs = a.natAbs ^ s := Int.natAbs_pow a s
  rw [e]
  have h1 : a.natAbs ^ s ≤ (2 ^ b) ^ s := Nat.pow_le_pow_left (Nat.le_of_lt h) s
  rw [← Nat.pow_mul] at h1
  exact Nat.lt_of_le_of_lt h1 (Nat.pow_lt_pow_right (by decide) (Nat.lt_succ_self _))
theorem abs_mono {x : Int} {a b : Nat} (hx : x.natAbs < 2 ^ a) (h : a ≤ b) : x.natAbs < 2 ^ b := Nat.lt_of_lt_of_le hx (Nat.pow_le_pow_right (by decide) h)
def RetT (K : PySem.W.Frag) (H : Hp) (Q : VK) (p : List Int) : Prop := ∀ a H', Ch [] H H' → SqT K H' a (ivs p) → Q (.ref a) H'
theorem eqv_ints : ∀ p r : List Int, PyData.eqvAll (p.map PyData.int) (r.map PyData.int) = decide (p = r)
  | [], [] => by simp [PyData.eqvAll]
  | [], y :: r => by simp [PyData.eqvAll]
  | x :: p, [] => by simp [PyData.eqvAll]
  | x :: p, y :: r => by
    have ih := eqv_ints p r
    show (PyData.eqv (.int x) (.int y) && PyData.eqvAll (p.map PyData.int) (r.map PyData.int)) = _
    rw [ih]
    show ((x == y) && decide (p = r)) = _
    by_cases h : x = y
    · subst h
      simp
    · simp [h]
theorem dp_ivs {K : PySem.W.Frag} {H : Hp} : ∀ p : List Int, DpAll K H (ivs p) (p.map PyData.int)
  | [] => .nil
  | x :: p => .cons (.int x) (dp_ivs p)
theorem lay_ints : ∀ p : List Int, PyData.canLayAll0 (p.map PyData.int) = true
  | [] => rfl
  | x :: p => by
    show (PyData.canLay0 (.int x) && PyData.canLayAll0 (p.map PyData.int)) = true
    rw [lay_ints p]
    rfl
theorem depth_ints : ∀ p : List Int, PyData.depthAll (p.map PyData.int) = 0
  | [] => rfl
  | x :: p => by
    show max (PyData.depth (.int x)) (PyData.depthAll (p.map PyData.int)) = 0
    rw [depth_ints p]
    rfl
theorem shaped_ints (p : List Int) : SeqAt.shaped (.tuple (p.map PyData.int)) = true := by
  show (PyData.canLayAll0 (p.map PyData.int) && decide (PyData.depthAll (p.map PyData.int) + 1 ≤ 64)) = true
  rw [lay_ints, depth_ints]
  rfl
theorem shapedL_ints (p : List Int) : SeqAt.shaped (.list (p.map PyData.int)) = true := by
  show (PyData.canLayAll0 (p.map PyData.int) && decide (PyData.depthAll (p.map PyData.int) + 1 ≤ 64)) = true
  rw [lay_ints, depth_ints]
  rfl
theorem w_eqT {K : PySem.W.Frag} {H : Hp} {Q : VK} {a b : Addr} {p r : List Int} (h1 : SqT K H a (ivs p)) (h2 : SqT K H b (ivs r)) (q : Q (.bl (decide (p = r))) H) : rEqD K (.ref a) (.ref b) H Q :=
  ⟨_, _, .tup h1 (dp_ivs p), .tup h2 (dp_ivs r), shaped_ints p, shaped_ints r, by
    show Q (.bl (PyData.eqvAll (p.map PyData.int) (r.map PyData.int))) H
    rw [eqv_ints]
    exact q⟩
theorem w_neT {K : PySem.W.Frag} {H : Hp} {Q : VK} {a b : Addr} {p r : List Int} (h1 : SqT K H a (ivs p)) (h2 : SqT K H b (ivs r)) (q : Q (.bl (!decide (p = r))) H) : rNeD K (.ref a) (.ref b) H Q :=
  ⟨_, _, .tup h1 (dp_ivs p), .tup h2 (dp_ivs r), shaped_ints p, shaped_ints r, by
    show Q (.bl (!PyData.eqvAll (p.map PyData.int) (r.map PyData.int))) H
    rw [eqv_ints]
    exact q⟩
theorem w_eqL {K : PySem.W.Frag} {H : Hp} {Q : VK} {a b : Addr} {p r : List Int} (h1 : SqL K H a (ivs p)) (h2 : SqL K H b (ivs r)) (q : Q (.bl (decide (p = r))) H) : rEqD K (.ref a) (.ref b) H Q :=
  ⟨_, _, .lst h1 (dp_ivs p), .lst h2 (dp_ivs r), shapedL_ints p, shapedL_ints r, by
    show Q (.bl (PyData.eqvAll (p.map PyData.int) (r.map PyData.int))) H
    rw [eqv_ints]
    exact q⟩
end My
/-! texts: readings, and plain facts about lists of signs -/
namespace My
open PySem PySem.Spec PyProof.Rows L2
open SX (S S_cat S_len S_tl S_inj)
open TL (numL tl)
open PySem.NumText (AllDigits digitsVal)
/-! ### texts as lists of signs -/
theorem S_ex (x : Str) : ∃ l, x = S l ∧ l.length = x.length := ⟨x.cps.toList, (S_tl x).symm, Array.length_toList⟩
theorem S_eqb {a b : List Nat} : decide (V.str (S a) = V.str (S b)) = decide (a = b) := by
  by_cases h : a = b
  · subst h
    rw [decide_eq_true rfl, decide_eq_true rfl]
  · rw [decide_eq_false h, decide_eq_false fun z => h (S_inj (V.str.inj z))]
def intL (n : Int) : List Nat := if n < 0 then 45 :: numL n.natAbs else numL n.natAbs
theorem intL_neg {n : Int} (h : n < 0) : intL n = 45 :: numL n.natAbs := if_pos h
theorem intL_pos {n : Int} (h : ¬ n < 0) : intL n = numL n.natAbs := if_neg h
theorem str_nat {n : Int} (h : 0 ≤ n) : Str.ofString (toString n) = S (numL n.natAbs) := by
  obtain ⟨m, rfl⟩ := Int.eq_ofNat_of_zero_le h
  exact SX.num_S m
theorem str_int (n : Int) : Str.ofString (toString n) = S (intL n) := by
  unfold intL
  by_cases h : n < 0
  · rw [if_pos h]
    obtain ⟨m, rfl⟩ := Int.eq_negSucc_of_lt_zero h
    refine TL.ext_tl ?_
    show (Str.ofString (toString (Int.negSucc m))).cps.toList = 45 :: numL (m + 1)
    have e1 : (Str.ofString (toString (((m + 1 : Nat)) : Int))).cps.toList = numL (m + 1) := TL.tl_num (m + 1)
    rw [PyProof.Rows.signs_ofString] at e1 ⊢
    have e2 : toString (Int.negSucc m) = "-" ++ toString (((m + 1 : Nat)) : Int) := rfl
    rw [e2, String.toList_append, List.map_append, e1]
    rfl
  · rw [if_neg h]
    exact str_nat (by omega)
theorem numL_len_pow {n k : Nat} (hk : 0 < k) (h : n < 10 ^ k) : (numL n).length ≤ k := TL.numL_len hk h
theorem intL_len {n : Int} {k : Nat} (hk : 0 < k) (h : n.natAbs < 10 ^ k) : (intL n).length ≤ k + 1 := by
  have := TL.numL_len hk h
  unfold intL
  split
  · rw [List.length_cons]
    omega
  · omega
theorem pow2_10 {x : Nat} (h : x < 2 ^ 300) : x < 10 ^ 91 := Nat.lt_of_lt_of_le h (by decide +kernel)
theorem zfill_S {l : List Nat} (h : AllDigits l) (p : Nat) : Txt.zfill (S l) (p : Int) = S (List.replicate (p - l.length) 48 ++ l) := by
  unfold Txt.zfill
  rw [S_len]
  by_cases c : (p : Int) ≤ (l.length : Int)
  · rw [if_pos c, show p - l.length = 0 by omega]
    rfl
  · rw [if_neg c]
    have hp : Builtin.Str.padded (S l) ((p : Int).toNat - l.length) 0 48 = S (List.replicate (p - l.length) 48 ++ l) := by
      refine TL.ext_tl ?_
      show (Builtin.Str.padded (S l) ((p : Int).toNat - l.length) 0 48).cps.toList = _
      rw [PyProof.Rows.padded_list, Int.toNat_natCast]
      simp
    unfold PySem.zfilled
    split
    · rename_i e
      exfalso
      cases l with
      | nil => simp at e
      | cons x r =>
        have := h x (List.mem_cons_self ..)
        simp at e
        omega
    · rename_i e
      exfalso
      cases l with
      | nil => simp at e
      | cons x r =>
        have := h x (List.mem_cons_self ..)
        simp at e
        omega
    · exact hp
theorem six_pos {n d : Nat} {i : Int} (h : 0 ≤ i) : HT.sIx n d (some i) = min i.toNat n := by
  show (if i < 0 then (i + (n : Int)).toNat else min i.toNat n) = _
  rw [if_neg (by omega)]
theorem cut_to {l : List Nat} {i : Int} (h : 0 ≤ i) : cutS (S l) none (some i) = S (l.take i.toNat) := by
  refine TL.ext_tl ?_
  show ((l.drop (HT.sIx (S l).length 0 none)).take (HT.sIx (S l).length (S l).length (some i) - HT.sIx (S l).length 0 none)) = l.take i.toNat
  rw [HT.sIx_none, S_len, List.drop_zero, six_pos h, Nat.sub_zero]
  by_cases c : i.toNat ≤ l.length
  · rw [Nat.min_eq_left c]
  · rw [Nat.min_eq_right (by omega), List.take_length, List.take_of_length_le (by omega)]
theorem cut_from {l : List Nat} {i : Int} (h : 0 ≤ i) : cutS (S l) (some i) none = S (l.drop i.toNat) := by
  refine TL.ext_tl ?_
  show ((l.drop (HT.sIx (S l).length 0 (some i))).take (HT.sIx (S l).length (S l).length none - HT.sIx (S l).length 0 (some i))) = l.drop i.toNat
  rw [HT.sIx_none, S_len, six_pos h]
  by_cases c : i.toNat ≤ l.length
  · rw [Nat.min_eq_left c, List.take_of_length_le (by rw [List.length_drop]; omega)]
  · rw [Nat.min_eq_right (by omega), List.drop_length, List.drop_of_length_le (by omega)]
    simp
theorem cut_mid_len {x : Str} {i j : Int} (h : 0 ≤ i) (h2 : 0 ≤ j) : (cutS x (some i) (some j)).length ≤ min (j.toNat - i.toNat) (x.length - i.toNat) := by
  show (((x.cps.toList.drop (HT.sIx x.length 0 (some i))).take (HT.sIx x.length x.length (some j) - HT.sIx x.length 0 (some i))).toArray).size ≤ _
  rw [List.size_toArray, List.length_take, List.length_drop, Array.length_toList]
  rw [six_pos h, six_pos h2]
  have : x.cps.size = x.length := rfl
  omega
theorem cut_to_len {x : Str} {i : Int} (h : 0 ≤ i) : (cutS x none (some i)).length = min i.toNat x.length := by
  obtain ⟨l, rfl, hl⟩ := S_ex x
  rw [cut_to h, S_len, S_len, List.length_take]
theorem cut_from_len {x : Str} {i : Int} (h : 0 ≤ i) : (cutS x (some i) none).length = x.length - i.toNat := by
  obtain ⟨l, rfl, hl⟩ := S_ex x
  rw [cut_from h, S_len, S_len, List.length_drop]
theorem head_is {l : List Nat} {c : Nat} : decide (l.take 1 = [c]) = decide (l.head? = some c) := by
  cases l with
  | nil => simp
  | cons x r => simp
theorem starts_S {l : List Nat} {c : Nat} : Txt.startswith (S l) (S [c]) = decide (l.head? = some c) := by
  unfold Txt.startswith
  cases l with
  | nil => simp [S_len]
  | cons x r =>
    have e : Builtin.Str.subAt (S (x :: r)) (S [c]) 0 = (x == c) := by
      unfold Builtin.Str.subAt
      simp [S, Str.length]
    rw [e, S_len, S_len]
    simp only [List.length_cons, List.length_nil, List.head?_cons, Option.some.injEq]
    rw [show decide (0 + (0 + 1) ≤ r.length + 1) = true from decide_eq_true (by omega), Bool.true_and]
    exact Bool.eq_iff_iff.mpr (by simp)
theorem lenlit : (Str.ofString "").length = 0 ∧ (Str.ofString " ").length = 1 ∧ (Str.ofString " !\"#$&'()*+,-./0123456789:;<=>?@ABCDEFGHIJKLMNOPQRSTUVWXYZ[\\]^_`").length = 64 ∧ (Str.ofString " /").length = 2 ∧ (Str.ofString "(").length = 1 ∧ (Str.ofString ")").length = 1 ∧ (Str.ofString "+").length = 1 ∧ (Str.ofString ",0").length = 2 ∧ (Str.ofString "-").length = 1 ∧ (Str.ofString "- ").length = 2 ∧ (Str.ofString "--").length = 2 ∧ (Str.ofString "-/").length = 2 ∧ (Str.ofString "-0").length = 2 ∧ (Str.ofString "-0/").length = 3 ∧ (Str.ofString ".").length = 1 ∧ (Str.ofString ".0").length = 2 ∧ (Str.ofString "/").length = 1 ∧ (Str.ofString "/ ").length = 2 ∧ (Str.ofString "/+").length = 2 ∧ (Str.ofString "/-").length = 2 ∧ (Str.ofString "//").length = 2 ∧ (Str.ofString "/0").length = 2 ∧ (Str.ofString "/00").length = 3 ∧ (Str.ofString "/1").length = 2 ∧ (Str.ofString "0").length = 1 ∧ (Str.ofString "0/").length = 2 ∧ (Str.ofString "00").length = 2 ∧ (Str.ofString "0123456789").length = 10 ∧ (Str.ofString "0123456789/-+ ._").length = 16 ∧ (Str.ofString "0x").length = 2 ∧ (Str.ofString "1").length = 1 ∧ (Str.ofString "None").length = 4 ∧ (Str.ofString "\\").length = 1 ∧ (Str.ofString "_").length = 1 ∧ (Str.ofString "_0").length = 2 ∧ (Str.ofString "abcdefghijklmnopqrstuvwxyz{|}~").length = 30 ∧ (Str.ofString "e1").length = 2 := by decide +kernel
end My
/-! plain words of digits, and the text of a fraction, read -/
namespace My
open PySem PySem.Spec PyProof.Rows L2
open SX (S S_cat S_len S_tl S_inj)
open TL (numL tl)
open PySem.NumText (AllDigits digitsVal)
abbrev dv (l : List Nat) : Nat := digitsVal l
theorem dv_foldl : ∀ (q : List Nat) (a : Nat), q.foldl (fun acc c => acc * 10 + (c - 48)) a = a * 10 ^ q.length + q.foldl (fun acc c => acc * 10 + (c - 48)) 0
  | [], a => by simp
  | c :: q, a => by
    rw [List.foldl_cons, List.foldl_cons, dv_foldl q (a * 10 + (c - 48)), dv_foldl q (0 * 10 + (c - 48)), List.length_cons, Nat.pow_succ, Nat.add_mul, Nat.zero_mul, Nat.zero_add, Nat.mul_assoc, Nat.mul_comm 10, Nat.add_assoc]
theorem dv_app (p q : List Nat) : dv (p ++ q) = dv p * 10 ^ q.length + dv q := by
  unfold dv digitsVal
  rw [List.foldl_append, dv_foldl]
theorem dv_one (c : Nat) : dv [c] = c - 48 := by
  show 0 * 10 + (c - 48) = c - 48
  omega
theorem dv_cons (c : Nat) (q : List Nat) : dv (c :: q) = (c - 48) * 10 ^ q.length + dv q := by
  have := dv_app [c] q
  rw [dv_one] at this
  exact this
theorem dv_zeros : ∀ (k : Nat) (q : List Nat), dv (List.replicate k 48 ++ q) = dv q
  | 0, q => by rw [List.replicate_zero, List.nil_append]
  | k + 1, q => by rw [List.replicate_succ, List.cons_append, dv_cons, dv_zeros k q]; simp
theorem dv_lt : ∀ {p : List Nat}, AllDigits p → dv p < 10 ^ p.length
  | [], _ => by decide
  | c :: p, h => by
    have h0 := h.head
    have ih := dv_lt h.tail
    rw [dv_cons, List.length_cons, Nat.pow_succ]
    have : (c - 48) * 10 ^ p.length ≤ 9 * 10 ^ p.length := Nat.mul_le_mul_right _ (by omega)
    omega
def Plain (l : List Nat) : Prop := AllDigits l ∧ (l = [48] ∨ ∃ c r, l = c :: r ∧ c ≠ 48)
theorem Plain.ne {l : List Nat} (h : Plain l) : l ≠ [] := by
  rcases h.2 with e | ⟨c, r, e, _⟩ <;> rw [e] <;> simp
theorem dv_pos {c : Nat} {r : List Nat} (h : AllDigits (c :: r)) (n : c ≠ 48) : 1 ≤ dv (c :: r) := by
  have := h.head
  rw [dv_cons]
  have : 1 * 10 ^ r.length ≤ (c - 48) * 10 ^ r.length := Nat.mul_le_mul_right _ (by omega)
  have p := Nat.pow_pos (n := r.length) (show 0 < 10 by decide)
  omega
theorem numL_dv : ∀ (k : Nat) {p : List Nat}, p.length ≤ k → Plain p → numL (dv p) = p := by
  intro k
  induction k with
  | zero =>
    intro p hp h
    exact absurd (List.length_eq_zero_iff.mp (by omega)) h.ne
  | succ k ih =>
    intro p hp h
    rcases List.eq_nil_or_concat p with e | ⟨q, c, e⟩
    · exact absurd e h.ne
    · rw [List.concat_eq_append] at e
      subst e
      have hc : 48 ≤ c ∧ c ≤ 57 := h.1 c (by simp)
      have hq : AllDigits q := fun d hd => h.1 d (by simp [hd])
      have ev : dv (q ++ [c]) = dv q * 10 + (c - 48) := by rw [dv_app, dv_one]; rfl
      by_cases z : q = []
      · subst z
        rw [List.nil_append, dv_one, TL.numL_lt (by omega), show 48 + (c - 48) = c by omega]
      · obtain ⟨d, r, e⟩ := List.exists_cons_of_ne_nil z
        subst e
        have nd : d ≠ 48 := by
          rcases h.2 with e | ⟨x, y, e, n⟩
          · simp at e
          · rw [List.cons_append] at e
            injection e with e1 e2
            rw [e1]
            exact n
        have ih := ih (p := d :: r) (by rw [List.length_append] at hp; simp only [List.length_cons, List.length_nil] at hp ⊢; omega) ⟨hq, .inr ⟨d, r, rfl, nd⟩⟩
        have p1 := dv_pos hq nd
        rw [ev, TL.numL_step (by omega), show (dv (d :: r) * 10 + (c - 48)) / 10 = dv (d :: r) by omega, show 48 + (dv (d :: r) * 10 + (c - 48)) % 10 = c by omega, ih]
theorem numL_plain : ∀ n : Nat, Plain (numL n) := by
  intro n
  refine ⟨TL.numL_digits n, ?_⟩
  induction n using Nat.strongRecOn with
  | _ n ih =>
    by_cases h : n < 10
    · rw [TL.numL_lt h]
      by_cases z : n = 0
      · subst z
        exact .inl rfl
      · exact .inr ⟨_, _, rfl, by omega⟩
    · rw [TL.numL_step (by omega)]
      rcases ih (n / 10) (by omega) with e | ⟨c, r, e, nc⟩
      · exfalso
        have v := TL.numL_val (n / 10)
        rw [e] at v
        have : (0 : Nat) = n / 10 := v
        omega
      · rw [e]
        exact .inr ⟨c, r ++ _, rfl, nc⟩
theorem plain_zero {p : List Nat} (h : Plain p) : dv p = 0 ↔ p = [48] := by
  refine ⟨fun e => ?_, fun e => by rw [e]; rfl⟩
  have := numL_dv p.length (Nat.le_refl _) h
  rw [e] at this
  rw [← this]
  rfl
/-! ### reading a fraction -/
def digB (c : Nat) : Bool := decide (48 ≤ c) && decide (c ≤ 57)
def plainB (l : List Nat) : Bool := l.all digB && (decide (l = [48]) || match l with | [] => false | c :: _ => !decide (c = 48))
theorem all_dig {l : List Nat} : l.all digB = true ↔ AllDigits l := by
  rw [List.all_eq_true]
  refine ⟨fun h c hc => ?_, fun h c hc => ?_⟩
  · have := h c hc
    unfold digB at this
    rw [Bool.and_eq_true, decide_eq_true_eq, decide_eq_true_eq] at this
    exact this
  · unfold digB
    rw [Bool.and_eq_true, decide_eq_true_eq, decide_eq_true_eq]
    exact h c hc
theorem plainB_iff {l : List Nat} : plainB l = true ↔ Plain l := by
  unfold plainB Plain
  rw [Bool.and_eq_true, all_dig, Bool.or_eq_true, decide_eq_true_eq]
  refine and_congr_right fun _ => or_congr_right ?_
  cases l with
  | nil => simp
  | cons c r => simp
/-- the text cut at the first slash -/
def cut : List Nat → List Nat × Option (List Nat)
  | [] => ([], none)
  | c :: t => if c = 47 then ([], some t) else (c :: (cut t).1, (cut t).2)
theorem cut_none : ∀ {l : List Nat}, (cut l).2 = none → (cut l).1 = l ∧ 47 ∉ l
  | [], _ => ⟨rfl, by simp⟩
  | c :: t, h => by
    unfold cut at h ⊢
    by_cases z : c = 47
    · rw [if_pos z] at h
      cases h
    · rw [if_neg z] at h ⊢
      obtain ⟨e, n⟩ := cut_none (l := t) h
      exact ⟨by show c :: (cut t).1 = _; rw [e], by simp [n, Ne.symm z]⟩
theorem cut_some : ∀ {l q : List Nat}, (cut l).2 = some q → l = (cut l).1 ++ 47 :: q ∧ 47 ∉ (cut l).1
  | [], q, h => by cases h
  | c :: t, q, h => by
    unfold cut at h ⊢
    by_cases z : c = 47
    · rw [if_pos z] at h ⊢
      cases h
      exact ⟨by rw [z]; rfl, by simp⟩
    · rw [if_neg z] at h ⊢
      obtain ⟨e, n⟩ := cut_some (l := t) h
      refine ⟨?_, by simp [n, Ne.symm z]⟩
      show c :: t = c :: ((cut t).1 ++ 47 :: q)
      rw [← e]
def negB (l : List Nat) : Bool := decide (l.head? = some 45)
def rest (l : List Nat) : List Nat := if negB l = true then l.drop 1 else l
def sg (b : Bool) (n : Nat) : Int := if b = true then -(n : Int) else n
/-- the fraction that a text tells -/
def rd (l : List Nat) : Option (Int × Int) :=
  let p := (cut (rest l)).1
  if plainB p = true ∧ ¬ (negB l = true ∧ p = [48]) then
    match (cut (rest l)).2 with
    | none => some (sg (negB l) (dv p), 1)
    | some q => if plainB q = true ∧ 2 ≤ dv q ∧ Nat.gcd (dv p) (dv q) = 1 then some (sg (negB l) (dv p), (dv q : Int)) else none
  else none
def fracL (n d : Int) : List Nat := if d = 1 then intL n else intL n ++ 47 :: intL d
theorem intL_sg {b : Bool} {p : List Nat} (h : Plain p) (z : ¬ (b = true ∧ p = [48])) : intL (sg b (dv p)) = (if b = true then [45] else []) ++ p := by
  have e := numL_dv p.length (Nat.le_refl _) h
  unfold sg
  cases b with
  | false =>
    rw [if_neg (by decide), if_neg (by decide), intL_pos (by omega), Int.natAbs_natCast, e]
    rfl
  | true =>
    rw [if_pos rfl, if_pos rfl]
    have nz : dv p ≠ 0 := fun q => z ⟨rfl, (plain_zero h).mp q⟩
    rw [intL_neg (by omega), Int.natAbs_neg, Int.natAbs_natCast, e]
    rfl
theorem rest_eq (l : List Nat) : l = (if negB l = true then [45] else []) ++ rest l := by
  unfold rest
  by_cases h : negB l = true
  · rw [if_pos h, if_pos h]
    unfold negB at h
    rw [decide_eq_true_eq] at h
    cases l with
    | nil => cases h
    | cons c r =>
      injection h with h
      subst h
      rfl
  · rw [if_neg h, if_neg h]
    rfl
/-- the read-back: what is read, written -/
theorem rd_back {l : List Nat} {n d : Int} (h : rd l = some (n, d)) : fracL n d = l ∧ 0 < d := by
  unfold rd at h
  dsimp only at h
  by_cases c : plainB (cut (rest l)).1 = true ∧ ¬ (negB l = true ∧ (cut (rest l)).1 = [48])
  · rw [if_pos c] at h
    obtain ⟨c1, c2⟩ := c
    have hp := plainB_iff.mp c1
    have il := intL_sg (b := negB l) hp c2
    have rl := rest_eq l
    cases e : (cut (rest l)).2 with
    | none =>
      rw [e] at h
      have h := Option.some.inj h
      injection h with h1 h2
      obtain ⟨e1, e2⟩ := cut_none e
      rw [← h1, ← h2]
      refine ⟨?_, by decide⟩
      unfold fracL
      rw [if_pos rfl, il, e1]
      exact rl.symm
    | some q =>
      rw [e] at h
      dsimp only at h
      by_cases k : plainB q = true ∧ 2 ≤ dv q ∧ Nat.gcd (dv (cut (rest l)).1) (dv q) = 1
      · rw [if_pos k] at h
        obtain ⟨k1, k2, k3⟩ := k
        have h := Option.some.inj h
        injection h with h1 h2
        obtain ⟨e1, e2⟩ := cut_some e
        rw [← h1, ← h2]
        refine ⟨?_, by omega⟩
        unfold fracL
        rw [if_neg (by omega), il, intL_pos (by omega), Int.natAbs_natCast, numL_dv q.length (Nat.le_refl _) (plainB_iff.mp k1), List.append_assoc, ← e1]
        exact rl.symm
      · rw [if_neg k] at h
        cases h
  · rw [if_neg c] at h
    cases h
/-- the text of a fraction in lowest terms, read -/
theorem rd_frac {n d : Int} (d0 : 0 < d) (g : Nat.gcd n.natAbs d.natAbs = 1) : rd (fracL n d) = some (n, d) := by
  have key : ∀ t : List Nat, (t = [] ∨ ∃ q, t = 47 :: q) → negB (intL n ++ t) = decide (n < 0) ∧ rest (intL n ++ t) = numL n.natAbs ++ t := by
    intro t _
    have hh : ∀ u : List Nat, negB (numL n.natAbs ++ u) = false := fun u => by
      unfold negB
      rw [decide_eq_false_iff_not]
      intro z
      obtain ⟨c, r, e⟩ := List.exists_cons_of_ne_nil (TL.numL_ne n.natAbs)
      rw [e] at z
      have z1 : c = 45 := by simpa using z
      have := TL.numL_digits n.natAbs c (by rw [e]; simp)
      omega
    by_cases z : n < 0
    · have e : negB (intL n ++ t) = true := by rw [intL_neg z]; rfl
      refine ⟨by rw [e, decide_eq_true z], ?_⟩
      unfold rest
      rw [if_pos e, intL_neg z]
      rfl
    · have e : negB (intL n ++ t) = false := by rw [intL_pos z]; exact hh t
      refine ⟨by rw [e, decide_eq_false z], ?_⟩
      unfold rest
      rw [if_neg (by rw [e]; decide), intL_pos z]
  have ns : 47 ∉ numL n.natAbs := TL.numL_free (.inl (by decide))
  have cutn : ∀ (p : List Nat), 47 ∉ p → cut p = (p, none) ∧ ∀ q, cut (p ++ 47 :: q) = (p, some q) := by
    intro p
    induction p with
    | nil => intro _; exact ⟨rfl, fun q => by unfold cut; rw [List.nil_append]; exact if_pos rfl⟩
    | cons c r ih =>
      intro hp
      have hc : c ≠ 47 := fun z => hp (by rw [z]; simp)
      obtain ⟨i1, i2⟩ := ih fun z => hp (by simp [z])
      refine ⟨?_, fun q => ?_⟩
      · show (if c = 47 then _ else _) = _
        rw [if_neg hc, i1]
      · show (if c = 47 then _ else (c :: (cut (r ++ 47 :: q)).1, (cut (r ++ 47 :: q)).2)) = _
        rw [if_neg hc, i2]
  have pl := plainB_iff.mpr (numL_plain n.natAbs)
  have vl := TL.numL_val n.natAbs
  have nz : ¬ (decide (n < 0) = true ∧ numL n.natAbs = [48]) := fun z => by
    have := (plain_zero (numL_plain n.natAbs)).mpr z.2
    rw [show dv (numL n.natAbs) = n.natAbs from vl] at this
    have := of_decide_eq_true z.1
    omega
  have sn : sg (decide (n < 0)) n.natAbs = n := by
    unfold sg
    by_cases z : n < 0
    · rw [decide_eq_true z, if_pos rfl]; omega
    · rw [decide_eq_false z, if_neg (by decide)]; omega
  unfold fracL
  by_cases z : d = 1
  · subst z
    rw [if_pos rfl]
    obtain ⟨k1, k2⟩ := key [] (.inl rfl)
    rw [List.append_nil, List.append_nil] at k2
    rw [List.append_nil] at k1
    unfold rd
    rw [k1, k2, (cutn _ ns).1]
    show (if _ ∧ _ then some (sg _ (dv (numL n.natAbs)), (1 : Int)) else none) = _
    rw [if_pos ⟨pl, nz⟩, show dv (numL n.natAbs) = n.natAbs from vl, sn]
  · rw [if_neg z]
    obtain ⟨k1, k2⟩ := key (47 :: intL d) (.inr ⟨_, rfl⟩)
    have ed : intL d = numL d.natAbs := intL_pos (by omega)
    have vd : dv (intL d) = d.natAbs := by rw [ed]; exact TL.numL_val _
    unfold rd
    rw [k1, k2, (cutn _ ns).2]
    show (if _ ∧ _ then (if _ ∧ _ ∧ _ then some (sg _ (dv (numL n.natAbs)), (dv (intL d) : Int)) else none) else none) = _
    rw [if_pos ⟨pl, nz⟩, show dv (numL n.natAbs) = n.natAbs from vl, vd, if_pos ⟨by rw [ed]; exact plainB_iff.mpr (numL_plain _), by omega, g⟩, sn]
    congr 2
    omega
end My
/-! rules of texts under names, and their readings -/
namespace My
open PySem PySem.Spec PyProof.Rows L2
open SX (S S_cat S_len S_tl S_inj)
open TL (numL tl)
open PySem.NumText (AllDigits digitsVal)
abbrev Mt := V → List V → Hp → VK → Prop
def rAddS : R2 := fun x y H Q => ∃ i j, x = .str i ∧ y = .str j ∧ i.length + j.length ≤ sizeLine ∧ Q (.str (i ++ j)) H
def rSplit : Mt := fun x xs H Q => ∃ a b, x = .str a ∧ xs = [.str b] ∧ (b.length == 0) = false ∧ a.length + 2 ≤ sizeLine ∧ rNewStrs (Txt.split a b) H Q
def rPart : Mt := fun x xs H Q => ∃ a b, x = .str a ∧ xs = [.str b] ∧ (b.length == 0) = false ∧ a.length ≤ sizeLine ∧ ∀ p, H p = none → Q (.ref p) (upd H p (.tup [.str (Txt.partition a b).1, .str (Txt.partition a b).2.1, .str (Txt.partition a b).2.2]))
def rJoin (K : PySem.W.Frag) : Mt := fun x xs H Q => ∃ a p, ∃ ys : List Str, x = .str a ∧ xs = [.ref p] ∧ (SqL K H p (ys.map V.str) ∨ SqT K H p (ys.map V.str)) ∧ (ys.map (·.length)).sum + ys.length * a.length ≤ 16777216 ∧ Q (.str (Txt.join a ys)) H
def rZfill : Mt := fun x xs H Q => ∃ (a : Str) (i : Int), x = .str a ∧ xs = [.int i] ∧ PadOk i = true ∧ Q (.str (Txt.zfill a i)) H
def rStarts : Mt := fun x xs H Q => ∃ a b, x = .str a ∧ xs = [.str b] ∧ Q (.bl (Txt.startswith a b)) H
def rLenS : List V → Hp → VK → Prop := fun xs H Q => ∃ z, xs = [.str z] ∧ z.length ≤ sizeLine ∧ Q (.int z.length) H
def rStrI : List V → Hp → VK → Prop := fun xs H Q => ∃ i : Int, xs = [.int i] ∧ i.natAbs.log2 < 1920 ∧ Q (.str (Str.ofString (toString i))) H
def rIntS : List V → Hp → VK → Prop := fun xs H Q => ∃ a n, xs = [.str a] ∧ PySem.intText? a = some n ∧ a.length ≤ 640 ∧ Q (.int n) H
def rDm : List V → Hp → VK → Prop := fun xs H Q => ∃ i j, xs = [.int i, .int j] ∧ CDivP i j ∧ ∀ p, H p = none → Q (.ref p) (upd H p (.tup [.int (i / j), .int (i % j)]))
section
variable {X : Cx} {K : PySem.W.Frag}
theorem op_addS : OpR X (binaryOp .Add) rAddS := op_add_str
theorem mt_splitS : MtR X "str.split" rSplit := mt_split
theorem mt_partS : MtR X "str.partition" rPart := mt_partition
theorem k_join (h : X.K = K) : MtR X "str.join" (rJoin K) := h ▸ mt_join
theorem mt_zfillS : MtR X "str.zfill" rZfill := mt_zfill
theorem mt_startsS : MtR X "str.startswith" rStarts := mt_startswith
theorem cb_lenS : CallR X (.builtin "len") rLenS := call_len_str
theorem cb_strI : CallR X (.type "str") rStrI := call_str_int
theorem cb_intS : CallR X (.type "int") rIntS := call_int_str
theorem cb_dm : CallR X (.builtin "divmod") rDm := call_divmodW
variable {σ : L2.St} {H : Hp} {Q : VK} {a b z : Str} {i j : Int} {c : Nat} {lo hi : Option Int} {x : V}
theorem w_addS (h : a.length + b.length ≤ sizeLine) (q : Q (.str (a ++ b)) H) : rAddS (.str a) (.str b) H Q := ⟨a, b, rfl, rfl, h, q⟩
theorem w_slS (h : z.length ≤ sizeLine) (q : Q (.str (cutS z lo hi)) H) : rSlS (.str z) lo hi H Q := ⟨z, rfl, h, q⟩
theorem w_ixS (h : z.length ≤ sizeLine) (e : atI z.cps.toList i = some c) (q : Q (.str ⟨#[c]⟩) H) : rIxS (.str z) (.int i) H Q := ⟨z, i, c, rfl, rfl, h, e, q⟩
theorem w_notInS (q : Q (.bl (!decide (c ∈ z.cps.toList))) H) : rNotInS (.str ⟨#[c]⟩) (.str z) H Q := ⟨c, z, rfl, rfl, q⟩
theorem w_split (hb : (b.length == 0) = false) (hz : a.length + 2 ≤ sizeLine) (q : ∀ p H', H p = none → Ch [] H H' → H' p = some (.lst ((Txt.split a b).map V.str)) → Q (.ref p) H') : rSplit (.str a) [.str b] H Q := ⟨a, b, rfl, rfl, hb, hz, w_new q⟩
theorem w_partS (hb : (b.length == 0) = false) (hz : a.length ≤ sizeLine) (q : ∀ p H', H p = none → Ch [] H H' → H' p = some (.tup [.str (Txt.partition a b).1, .str (Txt.partition a b).2.1, .str (Txt.partition a b).2.2]) → Q (.ref p) H') : rPart (.str a) [.str b] H Q := ⟨a, b, rfl, rfl, hb, hz, w_new q⟩
theorem w_join {p : Addr} {ys : List Str} (h : SqL K H p (ys.map V.str)) (hz : (ys.map (·.length)).sum + ys.length * a.length ≤ 16777216) (q : Q (.str (Txt.join a ys)) H) : rJoin K (.str a) [.ref p] H Q := ⟨a, p, ys, rfl, rfl, .inl h, hz, q⟩
theorem w_zfill (h : PadOk i = true) (q : Q (.str (Txt.zfill a i)) H) : rZfill (.str a) [.int i] H Q := ⟨a, i, rfl, rfl, h, q⟩
theorem w_starts (q : Q (.bl (Txt.startswith a b)) H) : rStarts (.str a) [.str b] H Q := ⟨a, b, rfl, rfl, q⟩
theorem w_lenS (h : z.length ≤ sizeLine) (q : Q (.int z.length) H) : rLenS [.str z] H Q := ⟨z, rfl, h, q⟩
theorem w_strI (h : i.natAbs < 2 ^ 1900) (q : Q (.str (S (intL i))) H) : rStrI [.int i] H Q := ⟨i, rfl, Nat.lt_trans (PySem.Flt.log2_lt_of (by decide) h) (by decide), by rw [str_int]; exact q⟩
theorem w_intS {n : Int} (h : PySem.intText? a = some n) (hl : a.length ≤ 640) (q : Q (.int n) H) : rIntS [.str a] H Q := ⟨a, n, rfl, h, hl, q⟩
theorem w_intD {l : List Nat} (h : AllDigits l) (hn : l ≠ []) (hl : l.length ≤ 640) (q : Q (.int (dv l : Nat)) H) : rIntS [.str (S l)] H Q :=
  w_intS (SX.int_S (all_dig.mpr h) hn (by omega)) (by rw [S_len]; exact hl) q
theorem w_dm (h : 0 < j) (hb : j.natAbs < 2 ^ 9000) (q : ∀ p H', H p = none → Ch [] H H' → H' p = some (.tup [.int (i / j), .int (i % j)]) → Q (.ref p) H') : rDm [.int i, .int j] H Q := ⟨i, j, rfl, ⟨h, PyProof.noPylong_of_log2 (PySem.Flt.log2_lt_of (by decide) hb)⟩, w_new q⟩
theorem w_eqS (q : Q (.bl (decide (a = b))) H) : rEq (.str a) (.str b) H Q := ⟨rfl, by
  have e : decide (V.str a = V.str b) = decide (a = b) := by rw [decide_eq_decide]; exact ⟨V.str.inj, congrArg V.str⟩
  rw [e]
  exact q⟩
theorem w_neS (q : Q (.bl (!decide (a = b))) H) : rNe (.str a) (.str b) H Q := ⟨rfl, by
  have e : decide (V.str a = V.str b) = decide (a = b) := by rw [decide_eq_decide]; exact ⟨V.str.inj, congrArg V.str⟩
  rw [e]
  exact q⟩
theorem w_tyS {p : Prop} (h : p) : tyV K "str" (.str a) H ∧ p := ⟨rfl, h⟩
theorem w_asg2 {te : TE} {g1 g2 : TG} {N B C : L2.St → Hp → Prop} {R : VK} (h : te σ H fun x H1 => g1 x σ H1 fun σ1 H2 => g2 x σ1 H2 N) : tAsg2 te g1 g2 ⟨N, R, B, C⟩ σ H := h
theorem w_iS {te : TE} {R : It → Hp → Prop} (h : te σ H fun v H1 => ∃ x, v = .str x ∧ R (Its x) H1) : iStr te σ H R := h
theorem w_iSr {R : Str → Prop} (q : R a) : ∃ x, V.str a = .str x ∧ R x := ⟨a, rfl, q⟩
/-- for sign in a text -/
theorem for_S {N : L2.St → Hp → Prop} {R : VK} {g : TG} {tb : TS} {l : List Nat} (Pv : Nat → L2.St → Hp → Prop) (h0 : Pv 0 σ H) (hs : ∀ i c σ H, l[i]? = some c → Pv i σ H → g (.str ⟨#[c]⟩) σ H fun σ2 H2 => tb ⟨Pv (i + 1), R, N, Pv (i + 1)⟩ σ2 H2) (hd : ∀ σ H, Pv l.length σ H → N σ H) : ForG (Its (S l)) g tb N R σ H := by
  have e : (S l).cps.size = l.length := by simp [S]
  refine for_w (walk_str (z := S l)) Pv h0 (fun _ _ _ _ _ => trivial) (fun i x σ H H' hi hp y => ?_) (by rw [e]; exact hd)
  obtain ⟨rfl, c, hc, rfl⟩ := y
  refine hs i c σ _ ?_ hp
  rw [List.getElem?_toArray] at hc
  exact hc
theorem lit_empty : (Str.ofString "") = S [] := by decide +kernel
theorem lit_minus : (Str.ofString "-") = S [45] := by decide +kernel
theorem lit_slash : (Str.ofString "/") = S [47] := by decide +kernel
theorem lit_dot : (Str.ofString ".") = S [46] := by decide +kernel
theorem lit_zero : (Str.ofString "0") = S [48] := by decide +kernel
theorem lit_one : (Str.ofString "1") = S [49] := by decide +kernel
theorem lit_digits : (Str.ofString "0123456789") = S [48, 49, 50, 51, 52, 53, 54, 55, 56, 57] := by decide +kernel
theorem in_digits {c : Nat} : decide (c ∈ (S [48, 49, 50, 51, 52, 53, 54, 55, 56, 57]).cps.toList) = digB c := by
  show decide (c ∈ [48, 49, 50, 51, 52, 53, 54, 55, 56, 57]) = digB c
  rw [Bool.eq_iff_iff, decide_eq_true_iff]
  unfold digB
  rw [Bool.and_eq_true, decide_eq_true_eq, decide_eq_true_eq]
  simp only [List.mem_cons, List.not_mem_nil, or_false]
  omega
theorem S_eq {l m : List Nat} : decide (S l = S m) = decide (l = m) := by rw [decide_eq_decide]; exact ⟨S_inj, congrArg S⟩
end
end My
/-! decimals, in plain numbers -/
namespace My
open PySem PySem.Spec PyProof.Rows L2
open SX (S S_cat S_len S_tl S_inj)
open TL (numL tl)
open PySem.NumText (AllDigits digitsVal)
def many (n d : Int) (p : Nat) : Int := (n * 10 ^ p).fdiv d
def zf (p r : Nat) : List Nat := List.replicate (p - (numL r).length) 48 ++ numL r
def decL (n d : Int) (p : Nat) : List Nat :=
  (if many n d p < 0 then [45] else []) ++ (numL ((many n d p).natAbs / 10 ^ p) ++ (if p = 0 then [] else 46 :: zf p ((many n d p).natAbs % 10 ^ p)))
theorem numL_short {p r : Nat} (h : r < 10 ^ p) (hp : 0 < p) : (numL r).length ≤ p := TL.numL_len hp h
theorem zf_len {p r : Nat} (h : r < 10 ^ p) (hp : 0 < p) : (zf p r).length = p := by
  have := numL_short h hp
  unfold zf
  rw [List.length_append, List.length_replicate]
  omega
theorem zf_dig (p r : Nat) : AllDigits (zf p r) := fun c hc => by
  unfold zf at hc
  rcases List.mem_append.mp hc with h | h
  · rw [(List.mem_replicate.mp h).2]
    omega
  · exact TL.numL_digits r c h
theorem zf_val (p r : Nat) : dv (zf p r) = r := by
  unfold zf
  rw [dv_zeros]
  exact TL.numL_val r
theorem many_le {n d : Int} {p : Nat} (hd : 0 < d) : many n d p * d ≤ n * 10 ^ p ∧ n * 10 ^ p < (many n d p + 1) * d := by
  unfold many
  generalize n * 10 ^ p = t
  have e := Int.mul_fdiv_add_fmod t d
  have m0 := Int.fmod_nonneg_of_pos t hd
  have m1 := Int.fmod_lt_of_pos t hd
  have c : d * t.fdiv d = t.fdiv d * d := Int.mul_comm _ _
  rw [Int.add_mul, Int.one_mul]
  omega
theorem many_bd {n d : Int} {p : Nat} (hd : 0 < d) (hn : n.natAbs < 2 ^ 300) (hp : p ≤ 70) : (many n d p).natAbs < 10 ^ 170 := by
  have l := many_le (n := n) (p := p) hd
  have b : (n * 10 ^ p).natAbs < 10 ^ 169 := by
    have h1 : n.natAbs < 10 ^ 91 := pow2_10 hn
    rw [Int.natAbs_mul, Int.natAbs_pow]
    have h2 : (Int.natAbs 10) ^ p ≤ 10 ^ 70 := Nat.pow_le_pow_right (by decide) hp
    calc n.natAbs * (Int.natAbs 10) ^ p ≤ n.natAbs * 10 ^ 70 := Nat.mul_le_mul_left _ h2
      _ < 10 ^ 91 * 10 ^ 70 := Nat.mul_lt_mul_of_pos_right h1 (by decide +kernel)
      _ < 10 ^ 169 := by decide +kernel
  generalize many n d p = m at *
  generalize n * 10 ^ p = t at *
  rw [show (10 : Nat) ^ 170 = 10 ^ 169 * 10 by decide +kernel]
  rw [Int.add_mul, Int.one_mul] at l
  by_cases c : 0 ≤ m
  · have : m * 1 ≤ m * d := Int.mul_le_mul_of_nonneg_left (by omega) c
    omega
  · have : (m + 1) * d ≤ (m + 1) * 1 := by
      have := Int.mul_le_mul_of_nonneg_left (show (1 : Int) ≤ d by omega) (show 0 ≤ -(m + 1) by omega)
      rw [Int.neg_mul, Int.neg_mul] at this
      omega
    rw [Int.add_mul, Int.one_mul] at this
    omega
theorem decL_len {n d : Int} {p : Nat} (hd : 0 < d) (hn : n.natAbs < 2 ^ 300) (hp : p ≤ 61) : (decL n d p).length ≤ 200 := by
  have bl := many_bd hd hn (show p ≤ 70 by omega)
  unfold decL
  rw [List.length_append, List.length_append]
  have h1 : (if many n d p < 0 then [45] else ([] : List Nat)).length ≤ 1 := by split <;> simp
  by_cases z : p = 0
  · subst z
    rw [if_pos rfl]
    have h2 : (numL ((many n d 0).natAbs / 10 ^ 0)).length ≤ 170 := TL.numL_len (by decide) (by rw [Nat.pow_zero, Nat.div_one]; exact bl)
    rw [List.length_nil]
    omega
  · rw [if_neg z, List.length_cons, zf_len (Nat.mod_lt _ (Nat.pow_pos (by decide))) (by omega)]
    have h2 : (numL ((many n d p).natAbs / 10 ^ p)).length ≤ 170 - p := by
      refine TL.numL_len (by omega) (Nat.div_lt_of_lt_mul ?_)
      rw [← Nat.pow_add, show p + (170 - p) = 170 by omega]
      exact bl
    omega
/-- what is told, in two halves -/
theorem dec_val {n d : Int} {p : Nat} (hp : 0 < p) : dv (numL ((many n d p).natAbs / 10 ^ p) ++ zf p ((many n d p).natAbs % 10 ^ p)) = (many n d p).natAbs := by
  have r := Nat.mod_lt (many n d p).natAbs (Nat.pow_pos (n := p) (show 0 < 10 by decide))
  rw [dv_app, zf_len r hp, zf_val, show dv (numL ((many n d p).natAbs / 10 ^ p)) = _ from TL.numL_val _, Nat.mul_comm]
  exact Nat.div_add_mod _ _
end My
/-! fractions in order, stretches: plain numbers. A fraction is a pair; the second number is positive -/
namespace My
open PySem PySem.Spec PyProof.Rows L2
abbrev Pr := Int × Int
/-- x is at most c -/
def LeF (x c : Pr) : Prop := x.1 * c.2 ≤ c.1 * x.2
theorem LeF.refl (x : Pr) : LeF x x := Int.le_refl _
theorem le_cancel {a b c : Int} (hc : 0 < c) (h : a * c ≤ b * c) : a ≤ b := Int.le_of_mul_le_mul_right h hc
theorem LeF.trans {x y z : Pr} (hy : 0 < y.2) (hx : 0 < x.2) (hz : 0 < z.2) (a : LeF x y) (b : LeF y z) : LeF x z := by
  obtain ⟨n, d⟩ := x
  obtain ⟨m, e⟩ := y
  obtain ⟨k, g⟩ := z
  have a : n * e ≤ m * d := a
  have b : m * g ≤ k * e := b
  show n * g ≤ k * d
  have a1 := Int.mul_le_mul_of_nonneg_right a (Int.le_of_lt hz)
  have b1 := Int.mul_le_mul_of_nonneg_right b (Int.le_of_lt hx)
  refine le_cancel (c := e) hy ?_
  have e1 : n * g * e = n * e * g := by simp only [Int.mul_assoc, Int.mul_left_comm, Int.mul_comm]
  have e2 : m * d * g = m * g * d := by simp only [Int.mul_assoc, Int.mul_left_comm, Int.mul_comm]
  have e3 : k * d * e = k * e * d := by simp only [Int.mul_assoc, Int.mul_left_comm, Int.mul_comm]
  have a1 : n * e * g ≤ m * d * g := a1
  have b1 : m * g * d ≤ k * e * d := b1
  omega
theorem LeF.total (x y : Pr) : LeF x y ∨ LeF y x := Int.le_total _ _
/-- a sum (0), a product (1) of two fractions, not reduced -/
def du (deed : Int) (a b : Pr) : Pr := if deed = 0 then (a.1 * b.2 + b.1 * a.2, a.2 * b.2) else (a.1 * b.1, a.2 * b.2)
theorem du_pos {deed : Int} {a b : Pr} (ha : 0 < a.2) (hb : 0 < b.2) : 0 < (du deed a b).2 := by
  unfold du
  split <;> exact Int.mul_pos ha hb
theorem du_comm (deed : Int) (a b : Pr) : du deed a b = du deed b a := by
  unfold du
  split
  · rw [Int.add_comm, Int.mul_comm a.2]
  · rw [Int.mul_comm a.1, Int.mul_comm a.2]
theorem add_mono {a x b : Pr} (ha : 0 < a.2) (hx : 0 < x.2) (hb : 0 < b.2) (h : LeF a x) : LeF (du 0 a b) (du 0 x b) := by
  obtain ⟨n, d⟩ := a
  obtain ⟨k, g⟩ := x
  obtain ⟨m, e⟩ := b
  have h : n * g ≤ k * d := h
  show (n * e + m * d) * (g * e) ≤ (k * e + m * g) * (d * e)
  have q : n * g * (e * e) ≤ k * d * (e * e) := Int.mul_le_mul_of_nonneg_right h (Int.le_of_lt (Int.mul_pos hb hb))
  rw [Int.add_mul, Int.add_mul]
  have e1 : n * e * (g * e) = n * g * (e * e) := by simp only [Int.mul_assoc, Int.mul_left_comm, Int.mul_comm]
  have e2 : k * e * (d * e) = k * d * (e * e) := by simp only [Int.mul_assoc, Int.mul_left_comm, Int.mul_comm]
  have e3 : m * d * (g * e) = m * g * (d * e) := by simp only [Int.mul_assoc, Int.mul_left_comm, Int.mul_comm]
  omega
theorem mul_mono {a x b : Pr} (ha : 0 < a.2) (hx : 0 < x.2) (hb : 0 < b.2) (h : LeF a x) (p : 0 ≤ b.1) : LeF (du 1 a b) (du 1 x b) := by
  obtain ⟨n, d⟩ := a
  obtain ⟨k, g⟩ := x
  obtain ⟨m, e⟩ := b
  have h : n * g ≤ k * d := h
  show n * m * (g * e) ≤ k * m * (d * e)
  have q := Int.mul_le_mul_of_nonneg_right h (Int.mul_nonneg p (Int.le_of_lt hb))
  have e1 : n * m * (g * e) = n * g * (m * e) := by simp only [Int.mul_assoc, Int.mul_left_comm, Int.mul_comm]
  have e2 : k * m * (d * e) = k * d * (m * e) := by simp only [Int.mul_assoc, Int.mul_left_comm, Int.mul_comm]
  have q : n * g * (m * e) ≤ k * d * (m * e) := q
  omega
theorem mul_anti {a x b : Pr} (ha : 0 < a.2) (hx : 0 < x.2) (hb : 0 < b.2) (h : LeF a x) (p : b.1 ≤ 0) : LeF (du 1 x b) (du 1 a b) := by
  obtain ⟨n, d⟩ := a
  obtain ⟨k, g⟩ := x
  obtain ⟨m, e⟩ := b
  have h : n * g ≤ k * d := h
  show k * m * (d * e) ≤ n * m * (g * e)
  have q := Int.mul_le_mul_of_nonneg_right h (Int.mul_nonneg (show 0 ≤ -m by have : m ≤ 0 := p; omega) (Int.le_of_lt hb))
  have e1 : n * m * (g * e) = n * g * (m * e) := by simp only [Int.mul_assoc, Int.mul_left_comm, Int.mul_comm]
  have e2 : k * m * (d * e) = k * d * (m * e) := by simp only [Int.mul_assoc, Int.mul_left_comm, Int.mul_comm]
  have e3 : n * g * (-m * e) = -(n * g * (m * e)) := by rw [Int.neg_mul, Int.mul_neg]
  have e4 : k * d * (-m * e) = -(k * d * (m * e)) := by rw [Int.neg_mul, Int.mul_neg]
  have q : n * g * (-m * e) ≤ k * d * (-m * e) := q
  omega
/-- for x between a and b, du deed x y lies between those of the ends, in one order or the other -/
theorem du_between {deed : Int} {a b x y : Pr} (hd : deed = 0 ∨ deed = 1) (ha : 0 < a.2) (hb : 0 < b.2) (hx : 0 < x.2) (hy : 0 < y.2) (h1 : LeF a x) (h2 : LeF x b) :
    (LeF (du deed a y) (du deed x y) ∧ LeF (du deed x y) (du deed b y)) ∨ (LeF (du deed b y) (du deed x y) ∧ LeF (du deed x y) (du deed a y)) := by
  rcases hd with e | e <;> subst e
  · exact .inl ⟨add_mono ha hx hy h1, add_mono hx hb hy h2⟩
  · by_cases p : 0 ≤ y.1
    · exact .inl ⟨mul_mono ha hx hy h1 p, mul_mono hx hb hy h2 p⟩
    · exact .inr ⟨mul_anti hx hb hy h2 (by omega), mul_anti ha hx hy h1 (by omega)⟩
/-- the four corners -/
def cs (deed : Int) (s t : Pr × Pr) : List Pr := [du deed s.1 t.1, du deed s.1 t.2, du deed s.2 t.1, du deed s.2 t.2]
theorem cs_comm (deed : Int) (s t : Pr × Pr) (c : Pr) : c ∈ cs deed t s ↔ c ∈ cs deed s t := by
  unfold cs
  rw [du_comm deed t.1 s.1, du_comm deed t.1 s.2, du_comm deed t.2 s.1, du_comm deed t.2 s.2]
  simp only [List.mem_cons, List.not_mem_nil, or_false]
  refine ⟨fun h => ?_, fun h => ?_⟩ <;> rcases h with h | h | h | h <;> simp [h]
/-- a stretch: both ends are fractions, the low one is not the greater one -/
structure Str2 (s : Pr × Pr) : Prop where
  p1 : 0 < s.1.2
  p2 : 0 < s.2.2
  le : LeF s.1 s.2
theorem corners_in {deed : Int} {s t : Pr × Pr} {x y : Pr} (hd : deed = 0 ∨ deed = 1) (S : Str2 s) (T : Str2 t) (hx : 0 < x.2) (hy : 0 < y.2) (a : LeF s.1 x) (b : LeF x s.2) (c : LeF t.1 y) (d : LeF y t.2) :
    (∃ u ∈ cs deed s t, LeF u (du deed x y)) ∧ ∃ u ∈ cs deed s t, LeF (du deed x y) u := by
  have key : ∀ e : Pr, (e = s.1 ∨ e = s.2) → 0 < e.2 → (∃ u ∈ cs deed s t, LeF u (du deed e y)) ∧ ∃ u ∈ cs deed s t, LeF (du deed e y) u := by
    intro e he pe
    have m1 : du deed e t.1 ∈ cs deed s t := by unfold cs; rcases he with z | z <;> rw [z] <;> simp
    have m2 : du deed e t.2 ∈ cs deed s t := by unfold cs; rcases he with z | z <;> rw [z] <;> simp
    rw [du_comm deed e t.1] at m1
    rw [du_comm deed e t.2] at m2
    rw [du_comm deed e y]
    rcases du_between hd T.p1 T.p2 hy pe c d with ⟨h1, h2⟩ | ⟨h1, h2⟩
    · exact ⟨⟨_, m1, h1⟩, ⟨_, m2, h2⟩⟩
    · exact ⟨⟨_, m2, h1⟩, ⟨_, m1, h2⟩⟩
  have pos : ∀ u ∈ cs deed s t, 0 < u.2 := fun u hu => by
    unfold cs at hu
    simp only [List.mem_cons, List.not_mem_nil, or_false] at hu
    rcases hu with z | z | z | z <;> rw [z]
    · exact du_pos S.p1 T.p1
    · exact du_pos S.p1 T.p2
    · exact du_pos S.p2 T.p1
    · exact du_pos S.p2 T.p2
  obtain ⟨⟨u1, v1, w1⟩, ⟨u2, v2, w2⟩⟩ := key s.1 (.inl rfl) S.p1
  obtain ⟨⟨u3, v3, w3⟩, ⟨u4, v4, w4⟩⟩ := key s.2 (.inr rfl) S.p2
  have pxy := du_pos (deed := deed) hx hy
  rcases du_between hd S.p1 S.p2 hx hy a b with ⟨h1, h2⟩ | ⟨h1, h2⟩
  · exact ⟨⟨u1, v1, w1.trans (du_pos S.p1 hy) (pos _ v1) pxy h1⟩, ⟨u4, v4, h2.trans (du_pos S.p2 hy) pxy (pos _ v4) w4⟩⟩
  · exact ⟨⟨u3, v3, w3.trans (du_pos S.p2 hy) (pos _ v3) pxy h1⟩, ⟨u2, v2, h2.trans (du_pos S.p1 hy) pxy (pos _ v2) w2⟩⟩
end My
open My PySem PySem.Spec PyProof.Rows L2
local macro_rules | `(tactic| walk_at "w1") => `(tactic| first
  | (with_reducible first
    | refine w_seq ?_
    | refine w_asg ?_
    | refine w_asgG ?_
    | refine w_ret ?_
    | refine w_drop ?_
    | refine w_if ?_
    | refine w_next ?_
    | refine w_break ?_
    | refine w_continue ?_
    | refine w_par ?_
    | refine w_two ?_
    | refine w_c ?_
    | refine w_op ?_
    | refine w_un ?_
    | refine w_I0 ?_
    | refine w_U ?_
    | refine w_eqI ?_
    | refine w_neI ?_
    | refine w_test ?_
    | refine w_B ?_
    | refine w_bl ?_
    | refine w_int ?_
    | refine w_N ?_
    | refine w_and ?_
    | refine w_or ?_
    | refine w_not ?_
    | refine w_andV ?_
    | refine w_orV ?_
    | refine w_notV ?_
    | refine w_ifE ?_
    | refine w_nil ?_
    | refine w_cons ?_
    | refine w_cb ?_
    | refine w_call ?_
    | refine w_tup ?_
    | refine w_lst ?_
    | refine w_abs ?_
    | refine w_max2 ?_
    | refine w_min2 ?_
    | refine w_int1 ?_
    | refine w_int1b ?_
    | refine w_gcd ?_
    | refine w_sl ?_
    | refine w_nopart ?_
    | refine w_part ?_
    | refine w_gname ?_
    | refine w_gsub ?_
    | refine w_gcons ?_
    | refine w_gnil ?_
    | refine w_bm ?_
    | refine w_for ?_
    | refine w_lc ?_
    | refine w_iL ?_
    | refine w_iT ?_
    | refine w_iR1 ?_
    | refine w_iR2 ?_
    | refine w_iE ?_
    | refine w_iV ?_
    | refine w_iR3 ?_
    | refine w_tru ?_
    | refine w_bits ?_
    | refine w_asg2 ?_
    | refine w_iS ?_
    | refine w_iSr ?_
    | refine w_tyS ?_
    | refine w_eqS ?_
    | refine w_neS ?_
    | refine w_notInS ?_
    | refine w_starts ?_)
  | ((with_reducible refine' w_var ?e ?_); (case e => with_unfolding_all rfl))
  | (with_reducible refine w_mod (by decide) ?_)
  | (with_reducible refine w_div (by decide) (by decide) ?_)
  | (with_reducible refine w_pow (by decide) (by decide) (by decide) ?_)
  | (with_reducible refine w_mulr (by decide) ?_)
  | (with_reducible refine w_mull (by decide) ?_)
  | ((with_reducible refine' w_addS ?h ?_); (case h => walk_at "sl"))
  | ((with_reducible refine' w_slS ?h ?_); (case h => walk_at "sl"))
  | ((with_reducible refine' w_lenS ?h ?_); (case h => walk_at "sl"))
  | ((with_reducible refine' w_ixL ?h ?e ?_); (case h => exact SqL.of (by assumption)); (case e => with_unfolding_all rfl))
  | ((with_reducible refine' w_ixT ?h ?e ?_); (case h => assumption); (case e => with_unfolding_all rfl)))
local macro_rules | `(tactic| walk_at "go") => `(tactic| repeat (walk_at "w1"))
local macro_rules | `(tactic| walk_at "hf") => `(tactic| first
  | assumption
  | (refine SqT.of ?_; walk_at "hf")
  | (refine SqL.of ?_; assumption)
  | (refine Ch.sqT (by assumption) ?_; walk_at "hf")
  | (refine Ch.at0 (by assumption) ?_; walk_at "hf")
  | (refine Ch.sq0 (by assumption) ?_; walk_at "hf")
  | (refine Ch.at1 (by assumption) (by first | assumption | exact Ne.symm (by assumption) | exact ne_of_none (by assumption) (by assumption) | exact Ne.symm (ne_of_none (by assumption) (by assumption))) ?_; walk_at "hf"))
local macro_rules | `(tactic| walk_at "sz") => `(tactic| first
  | assumption
  | (refine sz_le ?_; simp only [List.length_map, List.length_append, List.length_cons, List.length_nil, List.length_replicate, List.length_take, List.length_drop, List.length_range, List.length_set]; omega)
  | (refine sz_lt ?_; simp only [List.length_map, List.length_append, List.length_cons, List.length_nil, List.length_replicate, List.length_take, List.length_drop, List.length_range, List.length_set]; omega))
local macro_rules | `(tactic| walk_at "sl") => `(tactic| first
  | assumption
  | decide +kernel
  | (refine sz_le ?_; (try simp only [PySem.Str.length_append, SX.S_len, List.length_append, List.length_cons, List.length_nil, lenlit]); omega))

namespace My
open PySem PySem.Spec PyProof.Rows L2
def topS (i : Nat) : Stmt := PySem.Challenge.pw_cellspire_k02_decimals_texts_and_stretch.main.body.getD i (.Pass ⟨0, 0, 0, 0⟩)
structure Txt (mg : Str → Option Value) : Prop where
  z_len : mg "len" = none
  z_tuple : mg "tuple" = none
  z_int : mg "int" = none
  z_bool : mg "bool" = none
  z_range : mg "range" = none
  z_isinstance : mg "isinstance" = none
  z_abs : mg "abs" = none
  z_min : mg "min" = none
/-- the numbers n, d of a fraction at a -/
abbrev Fr (K : PySem.W.Frag) (H : Hp) (a : Addr) (n d : Int) : Prop := SqT K H a (ivs [n, d])
/-- the box that the law draws from -/
def RB (H : Hp) (b : Addr) : Prop := ∃ x y z t : Int, H b = some (.lst [.int x, .int y, .int z, .int t])
theorem RB.mono {H H' : Hp} {b : Addr} (B : RB H b) (h : Ch [] H H') : RB H' b := by
  obtain ⟨x, y, z, t, h1⟩ := B
  exact ⟨x, y, z, t, h.at0 h1⟩
theorem RB.mono1 {H H' : Hp} {b c : Addr} (B : RB H b) (n : b ≠ c) (h : Ch [c] H H') : RB H' b := by
  obtain ⟨x, y, z, t, h1⟩ := B
  exact ⟨x, y, z, t, h.at1 n h1⟩
theorem RB.ne {H : Hp} {b c : Addr} (B : RB H b) (hc : H c = none) : b ≠ c := by
  obtain ⟨x, y, z, t, h1⟩ := B
  exact ne_of_none h1 hc
theorem w_chain {r r' : R2} {ta tb tc : TE} {σ : L2.St} {H : Hp} {Q : VK} (h : ta σ H fun x H1 => tb σ H1 fun y H2 => r x y H2 fun z H3 => ∃ k, z = .bl k ∧ (if k = true then tc σ H3 fun w' H4 => r' y w' H4 Q else Q (.bl false) H3)) : tChain r r' ta tb tc σ H Q := h
section
variable {P : Program} {w : World} {K : PySem.W.Frag} {mg : Str → Option Value} {base : Heap}
/-! ### signs, comparing, floor -/
def sgn (i : Int) : Int := if i < 0 then -1 else if i > 0 then 1 else 0
abbrev s_sign_of : Stmt := topS 9
theorem sc_sign_of : FnScope ["n"] ["n"] (defScope s_sign_of) := ⟨rfl, rfl, rfl, by decide +kernel, rfl, by decide +kernel, by decide +kernel⟩
def sp_sign_of : Sp := fun vs H Q _ => ∃ i : Int, vs = [.int i] ∧ Q (.int (sgn i)) H
theorem c_sign_of {f : Addr} {fd : FuncData} (F : DefF K mg "sign_of" s_sign_of ["n"] f fd) : Cal P w K mg base 1 "sign_of" sp_sign_of := by
  refine cal_of F sc_sign_of (fun vs H Q E h => by obtain ⟨_, rfl, _⟩ := h; rfl) (fun cdv A outer s H vs Q E hr h => ?_)
  obtain ⟨i, rfl, q⟩ := h
  refine ⟨_, (pss_cons (ps_if (pt_cmpR op_lt (pv 0) pe_int (nomark _)) (pss_one (ps_ret (pe_un un_neg pe_int))) pss_nil)
 (pss_cons (ps_if (pt_cmpR op_gt (pv 0) pe_int (nomark _)) (pss_one (ps_ret pe_int)) pss_nil)
 (pss_one (ps_ret pe_int)))), ?_⟩
  refine w_start (σ := [some _]) rfl ?_
  unfold sgn at q
  walk_at "go"
  refine ite_d (fun h => ?_) (fun h => ?_)
  · rw [if_pos h] at q
    walk_at "go"
    exact q
  · rw [if_neg h] at q
    walk_at "go"
    refine ite_d (fun h2 => ?_) (fun h2 => ?_)
    · rw [if_pos h2] at q
      exact q
    · rw [if_neg h2] at q
      exact q
abbrev s_compare : Stmt := topS 14
theorem sc_compare : FnScope ["a", "b"] ["a", "b"] (defScope s_compare) := ⟨rfl, rfl, rfl, by decide +kernel, rfl, by decide +kernel, by decide +kernel⟩
def sp_compare (K : PySem.W.Frag) : Sp := fun vs H Q _ => ∃ (a b : Addr) (n d m e : Int) (z : Nat), vs = [.ref a, .ref b] ∧ Fr K H a n d ∧ Fr K H b m e ∧ n.natAbs < 2 ^ z ∧ d.natAbs < 2 ^ z ∧ m.natAbs < 2 ^ z ∧ e.natAbs < 2 ^ z ∧ z ≤ 60000000 ∧ Q (.int (sgn (n * e - m * d))) H
theorem c_compare (C_sign_of : Cal P w K mg base 1 "sign_of" sp_sign_of) {f : Addr} {fd : FuncData} (F : DefF K mg "compare" s_compare ["a", "b"] f fd) : Cal P w K mg base 2 "compare" (sp_compare K) := by
  refine cal_of F sc_compare (fun vs H Q E h => by obtain ⟨_, _, _, _, _, _, _, rfl, _⟩ := h; rfl) (fun cdv A outer s H vs Q E hr h => ?_)
  obtain ⟨a, b, n, d, m, e, z, rfl, ha, hb, h1, h2, h3, h4, hz, q⟩ := h
  refine ⟨_, (pss_one (ps_ret (pe_cc C_sign_of hr (by decide) (by rfl) (pa_cons (pe_op op_sub (pe_op op_mulG (pe_ix (k_ixT (K := K) rfl) (pv 0) pe_int (fun _ _ => rfl)) (pe_ix (k_ixT (K := K) rfl) (pv 1) pe_int (fun _ _ => rfl))) (pe_op op_mulG (pe_ix (k_ixT (K := K) rfl) (pv 1) pe_int (fun _ _ => rfl)) (pe_ix (k_ixT (K := K) rfl) (pv 0) pe_int (fun _ _ => rfl)))) pa_nil)))), ?_⟩
  refine w_start (σ := [some _, some _]) rfl ?_
  walk_at "go"
  refine w_I (mul_ok h1 h4 (by omega)) ?_
  walk_at "go"
  refine w_I (mul_ok h3 h2 (by omega)) ?_
  walk_at "go"
  exact ⟨_, rfl, q⟩
/-! ### the law's checks -/
abbrev s__law_is_integer : Stmt := topS 24
theorem sc__law_is_integer : FnScope ["told"] ["told"] (defScope s__law_is_integer) := ⟨rfl, rfl, rfl, by decide +kernel, rfl, by decide +kernel, by decide +kernel⟩
def sp__law_is_integer : Sp := fun vs H Q _ => ∃ i : Int, vs = [.int i] ∧ Q (.bl true) H
theorem c__law_is_integer (T : Txt mg) {f : Addr} {fd : FuncData} (F : DefF K mg "_law_is_integer" s__law_is_integer ["told"] f fd) : Cal P w K mg base 1 "_law_is_integer" sp__law_is_integer := by
  refine cal_of F sc__law_is_integer (fun vs H Q E h => by obtain ⟨_, rfl, _⟩ := h; rfl) (fun cdv A outer s H vs Q E hr h => ?_)
  obtain ⟨i, rfl, q⟩ := h
  refine ⟨_, (pss_one (ps_ret (pe_and (pe_callB (k_isi (K := K) rfl) (by rfl) T.z_isinstance (by decide +kernel) (pa_cons (pv 0) (pa_cons (pe_bltn (by rfl) T.z_int (by decide +kernel) (v := .ty "int") rfl) pa_nil))) (pe_one (pe_not (pe_callB (k_isi (K := K) rfl) (by rfl) T.z_isinstance (by decide +kernel) (pa_cons (pv 0) (pa_cons (pe_bltn (by rfl) T.z_bool (by decide +kernel) (v := .ty "bool") rfl) pa_nil)))))))), ?_⟩
  refine w_start (σ := [some _]) rfl ?_
  walk_at "go"
  refine w_isiII ?_
  walk_at "go"
  rw [if_pos rfl]
  walk_at "go"
  refine w_isiIB ?_
  exact ⟨_, rfl, q⟩
theorem h__law_is_integer (T : Txt mg) {f : Addr} {fd : FuncData} (F : DefF K mg "_law_is_integer" s__law_is_integer ["told"] f fd) : CalH P w K mg base 1 "_law_is_integer" sp__law_is_integer := by
  refine cal_ofH F sc__law_is_integer (fun vs H Q E h => by obtain ⟨_, rfl, _⟩ := h; rfl) (fun cdv A outer s H vs Q E p hot hr h => ?_)
  obtain ⟨i, rfl, q⟩ := h
  have hc : L2H.HotC (L2H.cxH (L2.CX P w) P w K mg base ["told"] "_law_is_integer" (defScope s__law_is_integer) f cdv A outer s H E p).nox := ⟨p, ⟨hot.1, hot.2⟩, List.mem_singleton.mpr rfl⟩
  refine ⟨_, (pss_one (ps_ret (pe_and (pe_callB (k_isi (K := K) rfl) (by rfl) T.z_isinstance (by decide +kernel) (pa_cons (pv 0) (pa_cons (pe_bltn (by rfl) T.z_int (by decide +kernel) (v := .ty "int") rfl) pa_nil))) (pe_one (pe_not (pe_callB (k_isi (K := K) rfl) (by rfl) T.z_isinstance (by decide +kernel) (pa_cons (pv 0) (pa_cons (pe_bltn (by rfl) T.z_bool (by decide +kernel) (v := .ty "bool") rfl) pa_nil)))))))), ?_⟩
  refine w_start (σ := [some _]) rfl ?_
  walk_at "go"
  refine w_isiII ?_
  walk_at "go"
  rw [if_pos rfl]
  walk_at "go"
  refine w_isiIB ?_
  exact ⟨_, rfl, q⟩
abbrev s__law_same : Stmt := topS 25
theorem sc__law_same : FnScope ["told", "due", "k"] ["told", "due"] (defScope s__law_same) := ⟨rfl, rfl, rfl, by decide +kernel, rfl, by decide +kernel, by decide +kernel⟩
def sp__law_same (K : PySem.W.Frag) : Sp := fun vs H Q _ => ∃ (a b : Addr) (p r : List Int), vs = [.ref a, .ref b] ∧ SqT K H a (ivs p) ∧ SqT K H b (ivs r) ∧ p.length ≤ 1000 ∧ r.length ≤ 1000 ∧ Q (.bl (decide (p = r))) H
theorem same_first {p r : List Int} (h : p.length = r.length) (e : p.take r.length = r.take r.length) : p = r := by
  rw [List.take_length, ← h, List.take_length] at e
  exact e
theorem take_step {p r : List Int} {i : Nat} (hp : i < p.length) (hr : i < r.length) (e : p.take i = r.take i) (c : coef p i = coef r i) : p.take (i + 1) = r.take (i + 1) := by
  rw [List.take_add_one, List.take_add_one, e, get_coef hp, get_coef hr, c]
theorem c__law_same (T : Txt mg) (C__law_is_integer : Cal P w K mg base 1 "_law_is_integer" sp__law_is_integer) {f : Addr} {fd : FuncData} (F : DefF K mg "_law_same" s__law_same ["told", "due"] f fd) : Cal P w K mg base 2 "_law_same" (sp__law_same K) := by
  refine cal_of F sc__law_same (fun vs H Q E h => by obtain ⟨_, _, _, _, rfl, _⟩ := h; rfl) (fun cdv A outer s H vs Q E hr h => ?_)
  obtain ⟨a, b, p, r, rfl, hp, hq, lp, lr, q⟩ := h
  refine ⟨_, (pss_cons (ps_if (PW.pt (pw_or (pt_not (pt_val (pe_callB (k_isi (K := K) rfl) (by rfl) T.z_isinstance (by decide +kernel) (pa_cons (pv 0) (pa_cons (pe_bltn (by rfl) T.z_tuple (by decide +kernel) (v := .ty "tuple") rfl) pa_nil))))) (pw_or1 (pt_cmpR op_ne (pe_callB (k_len (K := K) rfl) (by rfl) T.z_len PySem.boot_len (pa_cons (pv 0) pa_nil)) (pe_callB (k_len (K := K) rfl) (by rfl) T.z_len PySem.boot_len (pa_cons (pv 1) pa_nil)) (nomark _))))) (pss_one (ps_ret pe_bl)) pss_nil)
 (pss_cons (ps_for PassesOwn.never rfl (pi_range1 (by rfl) T.z_range (pa_cons (pe_callB (k_len (K := K) rfl) (by rfl) T.z_len PySem.boot_len (pa_cons (pv 1) pa_nil)) pa_nil)) (pg_name (i := 2) sc__law_same.nd rfl (Or.inl rfl)) (pss_one (ps_if (PW.pt (pw_or (pt_not (pt_val (pe_cc C__law_is_integer hr (by decide) (by rfl) (pa_cons (pe_ix (k_ixT (K := K) rfl) (pv 0) (pv 2) (fun _ _ => rfl)) pa_nil)))) (pw_or1 (pt_cmpR op_ne (pe_ix (k_ixT (K := K) rfl) (pv 0) (pv 2) (fun _ _ => rfl)) (pe_ix (k_ixT (K := K) rfl) (pv 1) (pv 2) (fun _ _ => rfl)) (nomark _))))) (pss_one (ps_ret pe_bl)) pss_nil)))
 (pss_one (ps_ret pe_bl)))), ?_⟩
  refine w_start (σ := [some _, some _, none]) rfl ?_
  walk_at "go"
  refine w_isiTT hp ?_
  walk_at "go"
  rw [if_neg (by decide)]
  walk_at "go"
  refine w_lenTi hp ?_
  walk_at "go"
  refine w_lenTi hq ?_
  walk_at "go"
  refine ite_nd (fun h0 => ?_) (fun h0 => ?_)
  · have e : p ≠ r := fun e => h0 (by rw [e])
    rw [decide_eq_false e] at q
    exact q
  have h1 : p.length = r.length := by omega
  walk_at "go"
  refine w_lenTi hq ?_
  walk_at "go"
  refine w_iR1r (by omega) (by omega) ?_
  refine for_R (n := r.length) (fun i σ H' => H' = H ∧ p.take i = r.take i ∧ ∃ z, σ = [some (.ref a), some (.ref b), z]) ⟨rfl, rfl, none, rfl⟩ ?_ ?_
  · rintro i σ H' hi ⟨rfl, e, z, rfl⟩
    walk_at "go"
    refine w_ixTi (k := i) hp (by omega) (get_coef (by omega)) ?_
    walk_at "go"
    refine ⟨_, rfl, ?_⟩
    walk_at "go"
    rw [if_neg (by decide)]
    walk_at "go"
    refine w_ixTi (k := i) hp (by omega) (get_coef (by omega)) ?_
    walk_at "go"
    refine w_ixTi (k := i) hq (by omega) (get_coef hi) ?_
    walk_at "go"
    refine ite_nd (fun h2 => ?_) (fun h2 => ?_)
    · have e : p ≠ r := fun e => h2 (by rw [e])
      rw [decide_eq_false e] at q
      exact q
    · exact ⟨rfl, take_step (by omega) hi e h2, _, rfl⟩
  · rintro σ H' ⟨rfl, e, z, rfl⟩
    rw [decide_eq_true (same_first h1 e)] at q
    exact q
theorem h__law_same (T : Txt mg) (H__law_is_integer : CalH P w K mg base 1 "_law_is_integer" sp__law_is_integer) {f : Addr} {fd : FuncData} (F : DefF K mg "_law_same" s__law_same ["told", "due"] f fd) : CalH P w K mg base 2 "_law_same" (sp__law_same K) := by
  refine cal_ofH F sc__law_same (fun vs H Q E h => by obtain ⟨_, _, _, _, rfl, _⟩ := h; rfl) (fun cdv A outer s H vs Q E pp hot hr h => ?_)
  obtain ⟨a, b, p, r, rfl, hp, hq, lp, lr, q⟩ := h
  have hc : L2H.HotC (L2H.cxH (L2.CX P w) P w K mg base ["told", "due", "k"] "_law_same" (defScope s__law_same) f cdv A outer s H E pp).nox := ⟨pp, ⟨hot.1, hot.2⟩, List.mem_singleton.mpr rfl⟩
  refine ⟨_, (pss_cons (ps_if (PW.pt (pw_or (pt_not (pt_val (pe_callB (k_isi (K := K) rfl) (by rfl) T.z_isinstance (by decide +kernel) (pa_cons (pv 0) (pa_cons (pe_bltn (by rfl) T.z_tuple (by decide +kernel) (v := .ty "tuple") rfl) pa_nil))))) (pw_or1 (pt_cmpR op_ne (pe_callB (k_len (K := K) rfl) (by rfl) T.z_len PySem.boot_len (pa_cons (pv 0) pa_nil)) (pe_callB (k_len (K := K) rfl) (by rfl) T.z_len PySem.boot_len (pa_cons (pv 1) pa_nil)) (nomark _))))) (pss_one (ps_ret pe_bl)) pss_nil)
 (pss_cons (L2H.ps_forH PassesOwn.never hc (L2H.pi_range1H (by rfl) T.z_range (pa_cons (pe_callB (k_len (K := K) rfl) (by rfl) T.z_len PySem.boot_len (pa_cons (pv 1) pa_nil)) pa_nil)) (pg_name (i := 2) sc__law_same.nd rfl (Or.inl rfl)) (pss_one (ps_if (PW.pt (pw_or (pt_not (pt_val (pe_ccH H__law_is_integer hr (by decide) hc (by rfl) (pa_cons (pe_ix (k_ixT (K := K) rfl) (pv 0) (pv 2) (fun _ _ => rfl)) pa_nil)))) (pw_or1 (pt_cmpR op_ne (pe_ix (k_ixT (K := K) rfl) (pv 0) (pv 2) (fun _ _ => rfl)) (pe_ix (k_ixT (K := K) rfl) (pv 1) (pv 2) (fun _ _ => rfl)) (nomark _))))) (pss_one (ps_ret pe_bl)) pss_nil)))
 (pss_one (ps_ret pe_bl)))), ?_⟩
  refine w_start (σ := [some _, some _, none]) rfl ?_
  walk_at "go"
  refine w_isiTT hp ?_
  walk_at "go"
  rw [if_neg (by decide)]
  walk_at "go"
  refine w_lenTi hp ?_
  walk_at "go"
  refine w_lenTi hq ?_
  walk_at "go"
  refine ite_nd (fun h0 => ?_) (fun h0 => ?_)
  · have e : p ≠ r := fun e => h0 (by rw [e])
    rw [decide_eq_false e] at q
    exact q
  have h1 : p.length = r.length := by omega
  walk_at "go"
  refine w_lenTi hq ?_
  walk_at "go"
  refine w_iR1r (by omega) (by omega) ?_
  refine for_R (n := r.length) (fun i σ H' => H' = H ∧ p.take i = r.take i ∧ ∃ z, σ = [some (.ref a), some (.ref b), z]) ⟨rfl, rfl, none, rfl⟩ ?_ ?_
  · rintro i σ H' hi ⟨rfl, e, z, rfl⟩
    walk_at "go"
    refine w_callS ?_
    walk_at "go"
    refine w_ixTi (k := i) hp (by omega) (get_coef (by omega)) ?_
    walk_at "go"
    refine ⟨_, rfl, ?_⟩
    walk_at "go"
    rw [if_neg (by decide)]
    walk_at "go"
    refine w_ixTi (k := i) hp (by omega) (get_coef (by omega)) ?_
    walk_at "go"
    refine w_ixTi (k := i) hq (by omega) (get_coef hi) ?_
    walk_at "go"
    refine ite_nd (fun h2 => ?_) (fun h2 => ?_)
    · have e : p ≠ r := fun e => h2 (by rw [e])
      rw [decide_eq_false e] at q
      exact q
    · exact ⟨rfl, take_step (by omega) hi e h2, _, rfl⟩
  · rintro σ H' ⟨rfl, e, z, rfl⟩
    rw [decide_eq_true (same_first h1 e)] at q
    exact q
end
end My
namespace My
open PySem PySem.Spec PyProof.Rows L2
section
variable {P : Program} {w : World} {K : PySem.W.Frag} {mg : Str → Option Value} {base : Heap}
/-! ### the box -/
abbrev s__law_cell : Stmt := topS 26
theorem sc__law_cell : FnScope ["script", "k", "total", "cell"] ["script", "k"] (defScope s__law_cell) := ⟨rfl, rfl, rfl, by decide +kernel, rfl, by decide +kernel, by decide +kernel⟩
def sp__law_cell (K : PySem.W.Frag) : Sp := fun vs H Q _ => ∃ (a : Addr) (ns : List Int) (k : Int), vs = [.ref a, .int k] ∧ SqL K H a (ivs ns) ∧ 0 ≤ k ∧ ns.length < 100000 ∧ ∀ (z : Int) H', Ch [] H H' → Q (.int z) H'
theorem w_chop {H : Hp} {Q : VK} {a : Addr} {xs : List V} {lo hi : Option Int} (h : SqL K H a xs) (q : ∀ p H', H p = none → Ch [] H H' → H' p = some (.lst (cutV xs lo hi)) → Q (.ref p) H') : rSlL K (.ref a) lo hi H Q := w_slL h q
theorem cut_ints {ns : List Int} {lo hi : Option Int} : ∃ ms : List Int, cutV (ivs ns) lo hi = ivs ms ∧ ms.length ≤ ns.length := by
  unfold cutV
  exact ⟨((ns.drop _).take _), by rw [ivs, ivs, List.map_take, List.map_drop], by rw [List.length_take, List.length_drop]; omega⟩
theorem c__law_cell (T : Txt mg) {f : Addr} {fd : FuncData} (F : DefF K mg "_law_cell" s__law_cell ["script", "k"] f fd) : Cal P w K mg base 1 "_law_cell" (sp__law_cell K) := by
  refine cal_of F sc__law_cell (fun vs H Q E h => by obtain ⟨_, _, _, rfl, _⟩ := h; rfl) (fun cdv A outer s H vs Q E hr h => ?_)
  obtain ⟨a, ns, k, rfl, hs, hk, hl, q⟩ := h
  refine ⟨_, (pss_cons (ps_if (pt_cmpR op_lt (pv 1) (pe_callB (k_len (K := K) rfl) (by rfl) T.z_len PySem.boot_len (pa_cons (pv 0) pa_nil)) (nomark _)) (pss_one (ps_ret (pe_callTy cb_int (by rfl) T.z_int (by decide +kernel) (pa_cons (pe_ix (k_ixL (K := K) rfl) (pv 0) (pv 1) (fun _ _ => rfl)) pa_nil)))) pss_nil)
 (pss_cons (ps_set (i := 2) sc__law_cell.nd rfl (Or.inl rfl) pe_int)
 (pss_cons (ps_for PassesOwn.never rfl (k_piL (K := K) rfl (pe_slice (k_slL (K := K) rfl) (pv 0) po_none (po_some pe_int))) (pg_name (i := 3) sc__law_cell.nd rfl (Or.inl rfl)) (pss_one (ps_set (i := 2) sc__law_cell.nd rfl (Or.inl rfl) (pe_op op_mod (pe_callTy cb_int (by rfl) T.z_int (by decide +kernel) (pa_cons (pe_op op_add (pe_op op_mulG (pv 2) pe_int) (pe_callTy cb_int (by rfl) T.z_int (by decide +kernel) (pa_cons (pv 3) pa_nil))) pa_nil)) pe_int))))
 (pss_one (ps_ret (pe_op op_mod (pe_callTy cb_int (by rfl) T.z_int (by decide +kernel) (pa_cons (pe_op op_add (pe_op op_add (pe_op op_mulG (pv 2) pe_int) (pe_op op_mulG (pv 1) pe_int)) pe_int) pa_nil)) pe_int)))))), ?_⟩
  refine w_start (σ := [some _, some _, none, none]) rfl ?_
  walk_at "go"
  refine w_lenL hs ?_
  rw [List.length_map]
  walk_at "go"
  refine ite_d (fun h0 => ?_) (fun h0 => ?_)
  · walk_at "go"
    refine w_ixL hs (atI_int (i := k.toNat) (by omega) (get_coef (by omega))) ?_
    walk_at "go"
    exact q _ _ .refl
  · walk_at "go"
    obtain ⟨ms, em, lm⟩ := cut_ints (ns := ns) (lo := none) (hi := some 63)
    refine w_slL hs fun s1 H1 n1 c1 h1 => ?_
    rw [em] at h1
    walk_at "go"
    refine w_iLr (.of h1) ?_
    have wk : Walk (Itl K s1) ms.length (fun H => SqL K H s1 (ivs ms)) (YAt (ivs ms)) := by
      have q := walk_list (K := K) (a := s1) (xs := ivs ms)
      rw [List.length_map] at q
      exact q
    refine for_w wk (fun i σ H' => H' = H1 ∧ ∃ (t : Int) (z : Option V), σ = [some (.ref a), some (.int k), some (.int t), z]) ⟨rfl, 0, none, rfl⟩ (fun i σ H' _ h => by rw [h.1]; exact .of h1) ?_ ?_
    · rintro i σ H2 x H3 hi ⟨rfl, t, z, rfl⟩ y
      obtain ⟨e, hx⟩ := y
      subst e
      obtain ⟨v, hv, rfl⟩ := ivs_get_inv hx
      walk_at "go"
      exact ⟨rfl, _, _, rfl⟩
    · rintro σ H2 ⟨rfl, t, z, rfl⟩
      walk_at "go"
      exact q _ _ c1
abbrev s__law_box : Stmt := topS 27
theorem sc__law_box : FnScope ["script", "k", "cell"] ["script", "k"] (defScope s__law_box) := ⟨rfl, rfl, rfl, by decide +kernel, rfl, by decide +kernel, by decide +kernel⟩
def sp__law_box (K : PySem.W.Frag) : Sp := fun vs H Q _ => ∃ (a : Addr) (ns : List Int) (k : Int), vs = [.ref a, .int k] ∧ SqL K H a (ivs ns) ∧ 0 ≤ k ∧ ns.length < 100000 ∧ ∀ b H', H b = none → Ch [] H H' → RB H' b → Q (.ref b) H'
theorem c__law_box (T : Txt mg) (C__law_cell : Cal P w K mg base 1 "_law_cell" (sp__law_cell K)) {f : Addr} {fd : FuncData} (F : DefF K mg "_law_box" s__law_box ["script", "k"] f fd) : Cal P w K mg base 2 "_law_box" (sp__law_box K) := by
  refine cal_of F sc__law_box (fun vs H Q E h => by obtain ⟨_, _, _, rfl, _⟩ := h; rfl) (fun cdv A outer s H vs Q E hr h => ?_)
  obtain ⟨a, ns, k, rfl, hs, hk, hl, q⟩ := h
  refine ⟨_, (pss_cons (ps_set (i := 2) sc__law_box.nd rfl (Or.inl rfl) (pe_cc C__law_cell hr (by decide) (by rfl) (pa_cons (pv 0) (pa_cons (pv 1) pa_nil))))
 (pss_one (ps_ret (pe_lst (pa_cons (pe_op op_mod (pe_callTy cb_int (by rfl) T.z_int (by decide +kernel) (pa_cons (pv 2) pa_nil)) (pe_op op_powG (pe_op op_pow pe_int pe_int) pe_int)) (pa_cons (pe_callTy cb_int (by rfl) T.z_int (by decide +kernel) (pa_cons (pe_cmpR op_ge (pv 2) (pe_op op_pow pe_int pe_int) (nomark _)) pa_nil)) (pa_cons (pe_op op_mod (pe_callTy cb_int (by rfl) T.z_int (by decide +kernel) (pa_cons (pv 2) pa_nil)) pe_int) (pa_cons pe_int pa_nil)))))))), ?_⟩
  refine w_start (σ := [some _, some _, none]) rfl ?_
  walk_at "go"
  refine ⟨a, ns, k, rfl, hs, hk, hl, fun z H1 c1 => ?_⟩
  walk_at "go"
  refine w_I (show CPowG _ _ from ⟨by decide, by decide +kernel⟩) ?_
  refine w_mod (by decide +kernel) ?_
  walk_at "go"
  refine w_newL (show 4 ≤ sizeLine by decide) fun b H2 n2 c2 h2 => ?_
  exact q b H2 (c1.free n2) (c1.trans c2) ⟨_, _, _, _, h2⟩
abbrev s__law_take : Stmt := topS 28
theorem sc__law_take : FnScope ["box", "many", "digit", "one", "two"] ["box", "many"] (defScope s__law_take) := ⟨rfl, rfl, rfl, by decide +kernel, rfl, by decide +kernel, by decide +kernel⟩
def sp__law_take : Sp := fun vs H Q _ => ∃ (b : Addr) (m : Int), vs = [.ref b, .int m] ∧ RB H b ∧ 0 < m ∧ m.natAbs < 2 ^ 9000 ∧ ∀ (r : Int) H', 0 ≤ r → r < m → Ch [b] H H' → RB H' b → Q (.int r) H'
theorem c__law_take (T : Txt mg) {f : Addr} {fd : FuncData} (F : DefF K mg "_law_take" s__law_take ["box", "many"] f fd) : Cal P w K mg base 1 "_law_take" sp__law_take := by
  refine cal_of F sc__law_take (fun vs H Q E h => by obtain ⟨_, _, rfl, _⟩ := h; rfl) (fun cdv A outer s H vs Q E hr h => ?_)
  obtain ⟨b, m, rfl, ⟨x, y, z, t, hb⟩, m0, mb, q⟩ := h
  refine ⟨_, (pss_cons (ps_asg (pe_op op_add (pe_ix (k_ixL (K := K) rfl) (pv 0) pe_int (fun _ _ => rfl)) pe_int) (pg_sub (pv 0) pe_int set_list))
 (pss_cons (ps_if (PW.pt (pw_and (pt_cmpR op_eq (pe_ix (k_ixL (K := K) rfl) (pv 0) pe_int (fun _ _ => rfl)) pe_int (nomark _)) (pw_and1 (pt_cmpR op_gt (pe_ix (k_ixL (K := K) rfl) (pv 0) pe_int (fun _ _ => rfl)) pe_int (nomark _))))) (pss_cons (ps_set (i := 2) sc__law_take.nd rfl (Or.inl rfl) (pe_op op_mod (pe_callTy cb_int (by rfl) T.z_int (by decide +kernel) (pa_cons (pe_ix (k_ixL (K := K) rfl) (pv 0) pe_int (fun _ _ => rfl)) pa_nil)) (pv 1)))
 (pss_cons (ps_asg (pe_op op_fdivG (pe_ix (k_ixL (K := K) rfl) (pv 0) pe_int (fun _ _ => rfl)) (pv 1)) (pg_sub (pv 0) pe_int set_list))
 (pss_one (ps_ret (pv 2))))) pss_nil)
 (pss_cons (ps_set (i := 3) sc__law_take.nd rfl (Or.inl rfl) (pe_op op_mod (pe_callTy cb_int (by rfl) T.z_int (by decide +kernel) (pa_cons (pe_op op_add (pe_op op_add (pe_op op_mulG (pe_ix (k_ixL (K := K) rfl) (pv 0) pe_int (fun _ _ => rfl)) pe_int) (pe_op op_mulG (pe_ix (k_ixL (K := K) rfl) (pv 0) pe_int (fun _ _ => rfl)) pe_int)) pe_int) pa_nil)) pe_int))
 (pss_cons (ps_set (i := 4) sc__law_take.nd rfl (Or.inl rfl) (pe_op op_mod (pe_callTy cb_int (by rfl) T.z_int (by decide +kernel) (pa_cons (pe_op op_add (pe_op op_add (pe_op op_mulG (pv 3) (pv 3)) (pe_op op_mulG (pv 3) pe_int)) (pe_op op_mulG (pe_ix (k_ixL (K := K) rfl) (pv 0) pe_int (fun _ _ => rfl)) pe_int)) pa_nil)) pe_int))
 (pss_one (ps_ret (pe_op op_mod (pe_callTy cb_int (by rfl) T.z_int (by decide +kernel) (pa_cons (pe_op op_fdiv (pv 4) pe_int) pa_nil)) (pv 1)))))))), ?_⟩
  refine w_start (σ := [some _, some _, none, none, none]) rfl ?_
  walk_at "go"
  refine w_setL (k := 3) hb rfl (show 3 < 4 by decide) fun H1 c1 h1 => ?_
  have h1 : H1 b = some (.lst [.int x, .int y, .int z, .int (t + 1)]) := h1
  have rest : ∀ r : Int, 0 ≤ r % m ∧ r % m < m := fun r => ⟨Int.emod_nonneg _ (by omega), Int.emod_lt_of_pos _ m0⟩
  have fin : ∀ (u v : Int), Q (.int (u % m)) H1 := fun u v => q _ _ (rest u).1 (rest u).2 c1 ⟨_, _, _, _, h1⟩
  have mul1 : ∀ u : Int, IntMulOk (u % 2147483647) (u % 2147483647) := fun u => mul_ok_l (by
    have a1 := Int.emod_nonneg u (show (2147483647 : Int) ≠ 0 by decide)
    have a2 := Int.emod_lt_of_pos u (show (0 : Int) < 2147483647 by decide)
    omega)
  walk_at "go"
  refine ite_d (fun h0 => ?_) (fun h0 => ?_)
  · walk_at "go"
    refine ite_d (fun h2 => ?_) (fun h2 => ?_)
    · walk_at "go"
      refine w_mod m0 ?_
      walk_at "go"
      refine w_I (div_ok (by omega) mb (by decide)) ?_
      walk_at "go"
      refine w_setL (k := 0) h1 rfl (show 0 < 4 by decide) fun H2 c2 h2 => ?_
      walk_at "go"
      exact q _ _ (rest x).1 (rest x).2 (c1.trans c2) ⟨_, _, _, _, h2⟩
    · walk_at "go"
      refine w_I (mul1 _) ?_
      walk_at "go"
      refine w_mod m0 ?_
      exact fin _ 0
  · rw [if_neg (by decide)]
    walk_at "go"
    refine w_I (mul1 _) ?_
    walk_at "go"
    refine w_mod m0 ?_
    exact fin _ 0
abbrev s__law_turned : Stmt := topS 29
theorem sc__law_turned : FnScope ["box", "number"] ["box", "number"] (defScope s__law_turned) := ⟨rfl, rfl, rfl, by decide +kernel, rfl, by decide +kernel, by decide +kernel⟩
def sp__law_turned : Sp := fun vs H Q _ => ∃ (b : Addr) (n : Int), vs = [.ref b, .int n] ∧ RB H b ∧ ∀ (r : Int) H', r = n ∨ r = -n → Ch [b] H H' → RB H' b → Q (.int r) H'
theorem c__law_turned (C__law_take : Cal P w K mg base 1 "_law_take" sp__law_take) {f : Addr} {fd : FuncData} (F : DefF K mg "_law_turned" s__law_turned ["box", "number"] f fd) : Cal P w K mg base 2 "_law_turned" sp__law_turned := by
  refine cal_of F sc__law_turned (fun vs H Q E h => by obtain ⟨_, _, rfl, _⟩ := h; rfl) (fun cdv A outer s H vs Q E hr h => ?_)
  obtain ⟨b, n, rfl, B, q⟩ := h
  refine ⟨_, (pss_cons (ps_if (pt_cmpR op_eq (pe_cc C__law_take hr (by decide) (by rfl) (pa_cons (pv 0) (pa_cons pe_int pa_nil))) pe_int (nomark _)) (pss_one (ps_ret (pe_un un_neg (pv 1)))) pss_nil)
 (pss_one (ps_ret (pv 1)))), ?_⟩
  refine w_start (σ := [some _, some _]) rfl ?_
  walk_at "go"
  refine ⟨b, 2, rfl, B, by decide, by decide +kernel, fun r H1 r0 r1 c1 B1 => ?_⟩
  walk_at "go"
  refine ite_d (fun h => ?_) (fun h => ?_)
  · walk_at "go"
    exact q _ _ (.inr rfl) c1 B1
  · walk_at "go"
    exact q _ _ (.inl rfl) c1 B1
abbrev s__law_power : Stmt := topS 30
theorem sc__law_power : FnScope ["root", "count", "number", "turn"] ["root", "count"] (defScope s__law_power) := ⟨rfl, rfl, rfl, by decide +kernel, rfl, by decide +kernel, by decide +kernel⟩
def sp__law_power : Sp := fun vs H Q _ => ∃ (r : Int) (n : Int) (z : Nat), vs = [.int r, .int n] ∧ r.natAbs < 2 ^ z ∧ z ≤ 60 ∧ 0 ≤ n ∧ n ≤ 1000 ∧ Q (.int (r ^ n.toNat)) H
theorem c__law_power (T : Txt mg) {f : Addr} {fd : FuncData} (F : DefF K mg "_law_power" s__law_power ["root", "count"] f fd) : Cal P w K mg base 1 "_law_power" sp__law_power := by
  refine cal_of F sc__law_power (fun vs H Q E h => by obtain ⟨_, _, _, rfl, _⟩ := h; rfl) (fun cdv A outer s H vs Q E hr h => ?_)
  obtain ⟨r, n, z, rfl, hr', hz, n0, n1, q⟩ := h
  refine ⟨_, (pss_cons (ps_set (i := 2) sc__law_power.nd rfl (Or.inl rfl) pe_int)
 (pss_cons (ps_for PassesOwn.never rfl (pi_range1 (by rfl) T.z_range (pa_cons (pv 1) pa_nil)) (pg_name (i := 3) sc__law_power.nd rfl (Or.inl rfl)) (pss_one (ps_set (i := 2) sc__law_power.nd rfl (Or.inl rfl) (pe_op op_mulG (pv 2) (pv 0)))))
 (pss_one (ps_ret (pv 2))))), ?_⟩
  refine w_start (σ := [some _, some _, none, none]) rfl ?_
  walk_at "go"
  refine w_iR1r (by omega) (by omega) ?_
  refine for_R (n := n.toNat) (fun i σ H' => H' = H ∧ ∃ y, σ = [some (.int r), some (.int n), some (.int (r ^ i)), y]) ⟨rfl, none, by rw [Int.pow_zero]; rfl⟩ ?_ ?_
  · rintro i σ H' hi ⟨rfl, y, rfl⟩
    walk_at "go"
    refine w_I (mul_ok_r (Nat.lt_of_lt_of_le hr' (Nat.pow_le_pow_right (by decide) (by omega)))) ?_
    exact ⟨rfl, _, by rw [Int.pow_succ]; rfl⟩
  · rintro σ H' ⟨rfl, y, rfl⟩
    exact ⟨_, rfl, q⟩
abbrev s__law_limbs : Stmt := topS 31
theorem sc__law_limbs : FnScope ["box", "count", "number", "turn"] ["box", "count"] (defScope s__law_limbs) := ⟨rfl, rfl, rfl, by decide +kernel, rfl, by decide +kernel, by decide +kernel⟩
def sp__law_limbs : Sp := fun vs H Q _ => ∃ (b : Addr) (n : Int), vs = [.ref b, .int n] ∧ RB H b ∧ 0 ≤ n ∧ n ≤ 20 ∧ ∀ (r : Int) H', 0 ≤ r → r < 100000 ^ n.toNat → Ch [b] H H' → RB H' b → Q (.int r) H'
theorem c__law_limbs (T : Txt mg) (C__law_take : Cal P w K mg base 1 "_law_take" sp__law_take) {f : Addr} {fd : FuncData} (F : DefF K mg "_law_limbs" s__law_limbs ["box", "count"] f fd) : Cal P w K mg base 2 "_law_limbs" sp__law_limbs := by
  refine cal_of F sc__law_limbs (fun vs H Q E h => by obtain ⟨_, _, rfl, _⟩ := h; rfl) (fun cdv A outer s H vs Q E hr h => ?_)
  obtain ⟨b, n, rfl, B, n0, n1, q⟩ := h
  refine ⟨_, (pss_cons (ps_set (i := 2) sc__law_limbs.nd rfl (Or.inl rfl) pe_int)
 (pss_cons (ps_for PassesOwn.never rfl (pi_range1 (by rfl) T.z_range (pa_cons (pv 1) pa_nil)) (pg_name (i := 3) sc__law_limbs.nd rfl (Or.inl rfl)) (pss_one (ps_set (i := 2) sc__law_limbs.nd rfl (Or.inl rfl) (pe_op op_add (pe_op op_mulG (pv 2) pe_int) (pe_cc C__law_take hr (by decide) (by rfl) (pa_cons (pv 0) (pa_cons pe_int pa_nil)))))))
 (pss_one (ps_ret (pv 2))))), ?_⟩
  refine w_start (σ := [some _, some _, none, none]) rfl ?_
  walk_at "go"
  refine w_iR1r (by omega) (by omega) ?_
  refine for_R (n := n.toNat) (fun i σ H' => Ch [b] H H' ∧ RB H' b ∧ ∃ (v : Int) (y : Option V), σ = [some (.ref b), some (.int n), some (.int v), y] ∧ 0 ≤ v ∧ v < 100000 ^ i) ⟨.refl, B, 0, none, rfl, by decide, by decide⟩ ?_ ?_
  · rintro i σ H' hi ⟨c1, B1, v, y, rfl, v0, v1⟩
    walk_at "go"
    refine ⟨b, 100000, rfl, B1, by decide, by decide +kernel, fun r H2 r0 r1 c2 B2 => ?_⟩
    walk_at "go"
    refine ⟨c1.trans c2, B2, _, _, rfl, by omega, ?_⟩
    rw [Int.pow_succ]
    omega
  · rintro σ H' ⟨c1, B1, v, y, rfl, v0, v1⟩
    walk_at "go"
    exact q _ _ v0 v1 c1 B1
end
end My
namespace My
open PySem PySem.Spec PyProof.Rows L2
/-! ### lowest terms, in plain numbers -/
structure Low (t b n d : Int) : Prop where
  pos : 0 < d
  cop : Nat.gcd n.natAbs d.natAbs = 1
  eq : n * b = d * t
  ln : n.natAbs ≤ t.natAbs
  ld : d.natAbs ≤ b.natAbs
theorem low_of {t b s : Int} {g : Nat} (hs : s = 1 ∨ s = -1) (hb : 0 < s * b) (hg : g = Nat.gcd t.natAbs b.natAbs) : Low t b ((s * t).fdiv g) ((s * b).fdiv g) := by
  have b0 : b ≠ 0 := fun e => by rw [e, Int.mul_zero] at hb; omega
  have g0 : 0 < g := by
    rw [hg]
    exact Nat.gcd_pos_of_pos_right _ (by omega)
  have dt : (g : Int) ∣ t := Int.ofNat_dvd_left.mpr (by rw [hg]; exact Nat.gcd_dvd_left _ _)
  have db : (g : Int) ∣ b := Int.ofNat_dvd_left.mpr (by rw [hg]; exact Nat.gcd_dvd_right _ _)
  obtain ⟨t', et⟩ := dt
  obtain ⟨b', eb⟩ := db
  have gne : (g : Int) ≠ 0 := by omega
  have e1 : (s * t).fdiv g = s * t' := by
    rw [et, Int.mul_left_comm]
    exact Int.mul_fdiv_cancel_left _ gne
  have e2 : (s * b).fdiv g = s * b' := by
    rw [eb, Int.mul_left_comm]
    exact Int.mul_fdiv_cancel_left _ gne
  rw [e1, e2]
  have at' : t.natAbs = g * t'.natAbs := by rw [et, Int.natAbs_mul, Int.natAbs_natCast]
  have ab' : b.natAbs = g * b'.natAbs := by rw [eb, Int.natAbs_mul, Int.natAbs_natCast]
  have sa : ∀ x : Int, (s * x).natAbs = x.natAbs := fun x => by
    rcases hs with e | e <;> rw [e] <;> omega
  refine ⟨?_, ?_, ?_, ?_, ?_⟩
  · rw [eb, Int.mul_left_comm] at hb
    by_cases c : 0 < s * b'
    · exact c
    · exfalso
      have := Int.mul_le_mul_of_nonneg_left (show s * b' ≤ 0 by omega) (show (0 : Int) ≤ g by omega)
      rw [Int.mul_zero] at this
      omega
  · rw [sa, sa]
    rw [at', ab', Nat.gcd_mul_left] at hg
    exact Nat.eq_of_mul_eq_mul_left g0 (by omega)
  · rw [et, eb]
    simp only [Int.mul_assoc, Int.mul_left_comm, Int.mul_comm]
  · rw [sa, at']
    exact Nat.le_mul_of_pos_left _ g0
  · rw [sa, ab']
    exact Nat.le_mul_of_pos_left _ g0
/-- what the law's numbers are -/
structure Num (n d : Int) : Prop where
  pos : 0 < d
  cop : Nat.gcd n.natAbs d.natAbs = 1
  b1 : n.natAbs < 2 ^ 160
  b2 : d.natAbs < 2 ^ 160
theorem Num.bn {n d : Int} (h : Num n d) : n.natAbs < 2 ^ 300 := abs_mono h.b1 (by decide)
theorem Num.bd {n d : Int} (h : Num n d) : d.natAbs < 2 ^ 300 := abs_mono h.b2 (by decide)
theorem Low.num {t b n d : Int} (h : Low t b n d) (ht : t.natAbs < 2 ^ 160) (hb : b.natAbs < 2 ^ 160) : Num n d := ⟨h.pos, h.cop, Nat.lt_of_le_of_lt h.ln ht, Nat.lt_of_le_of_lt h.ld hb⟩
section
variable {P : Program} {w : World} {K : PySem.W.Frag} {mg : Str → Option Value} {base : Heap}
abbrev s__law_gcd : Stmt := topS 33
theorem sc__law_gcd : FnScope ["one", "two", "left", "right", "turn"] ["one", "two"] (defScope s__law_gcd) := ⟨rfl, rfl, rfl, by decide +kernel, rfl, by decide +kernel, by decide +kernel⟩
def sp__law_gcd : Sp := fun vs H Q _ => ∃ (a b : Int), vs = [.int a, .int b] ∧ b.natAbs < 2 ^ 1998 ∧ Q (.int (Nat.gcd a.natAbs b.natAbs : Nat)) H
theorem c__law_gcd (T : Txt mg) {f : Addr} {fd : FuncData} (F : DefF K mg "_law_gcd" s__law_gcd ["one", "two"] f fd) : Cal P w K mg base 1 "_law_gcd" sp__law_gcd := by
  refine cal_of F sc__law_gcd (fun vs H Q E h => by obtain ⟨_, _, rfl, _⟩ := h; rfl) (fun cdv A outer s H vs Q E hr h => ?_)
  obtain ⟨a, b, rfl, hb, q⟩ := h
  refine ⟨_, (pss_cons (ps_set (i := 2) sc__law_gcd.nd rfl (Or.inl rfl) (pe_callB cb_abs (by rfl) T.z_abs (by decide +kernel) (pa_cons (pv 0) pa_nil)))
 (pss_cons (ps_set (i := 3) sc__law_gcd.nd rfl (Or.inl rfl) (pe_callB cb_abs (by rfl) T.z_abs (by decide +kernel) (pa_cons (pv 1) pa_nil)))
 (pss_cons (ps_for PassesOwn.never rfl (pi_range1 (by rfl) T.z_range (pa_cons pe_int pa_nil)) (pg_name (i := 4) sc__law_gcd.nd rfl (Or.inl rfl)) (pss_cons (ps_if (pt_cmpR op_eq (pv 3) pe_int (nomark _)) (pss_one ps_break) pss_nil)
 (pss_one (ps_par (i := 2) (j := 3) (by rfl) sc__law_gcd.nd rfl rfl (by decide) rfl rfl (pa_cons (pv 3) (pa_cons (pe_op op_mod (pe_callTy cb_int (by rfl) T.z_int (by decide +kernel) (pa_cons (pv 2) pa_nil)) (pv 3)) pa_nil)) (by rfl)))))
 (pss_one (ps_ret (pv 2)))))), ?_⟩
  refine w_start (σ := [some _, some _, none, none, none]) rfl ?_
  walk_at "go"
  refine w_iR1r (by omega) (by omega) ?_
  have done : ∀ (x : Nat) (z : Option V), Nat.gcd x 0 = Nat.gcd a.natAbs b.natAbs → Q (.int x) H := fun x z h => by
    rw [Nat.gcd_zero_right] at h
    rw [h]
    exact q
  refine for_R (n := 4000) (fun i σ H' => H' = H ∧ ∃ (x y : Nat) (z : Option V), σ = [some (.int a), some (.int b), some (.int x), some (.int y), z] ∧ Nat.gcd x y = Nat.gcd a.natAbs b.natAbs ∧ Euc 1998 i x y) ⟨rfl, _, _, none, rfl, rfl, fun _ => by simpa using hb, fun h => by omega⟩ ?_ ?_
  · rintro i σ H' hi ⟨rfl, x, y, z, rfl, hg, eu⟩
    walk_at "go"
    refine ite_d (fun h0 => ?_) (fun h0 => ?_)
    · have hy : y = 0 := by omega
      subst hy
      walk_at "go"
      exact done x z hg
    · walk_at "go"
      refine w_mod (by omega) ?_
      walk_at "go"
      refine ⟨rfl, y, x % y, _, rfl, ?_, eu.step (by omega)⟩
      rw [← hg, Nat.gcd_comm x y, Nat.gcd_rec y x, Nat.gcd_comm]
  · rintro σ H' ⟨rfl, x, y, z, rfl, hg, eu⟩
    have hy := Euc.zero (L := 1998) eu
    subst hy
    walk_at "go"
    exact done x z hg
abbrev s__law_lowest : Stmt := topS 34
theorem sc__law_lowest : FnScope ["top", "bottom", "common"] ["top", "bottom"] (defScope s__law_lowest) := ⟨rfl, rfl, rfl, by decide +kernel, rfl, by decide +kernel, by decide +kernel⟩
def sp__law_lowest (K : PySem.W.Frag) : Sp := fun vs H Q _ => ∃ (t b : Int), vs = [.int t, .int b] ∧ b ≠ 0 ∧ b.natAbs < 2 ^ 1998 ∧ ∀ (a : Addr) (n d : Int) H', Low t b n d → Ch [] H H' → Fr K H' a n d → Q (.ref a) H'
theorem c__law_lowest (C__law_gcd : Cal P w K mg base 1 "_law_gcd" sp__law_gcd) {f : Addr} {fd : FuncData} (F : DefF K mg "_law_lowest" s__law_lowest ["top", "bottom"] f fd) : Cal P w K mg base 2 "_law_lowest" (sp__law_lowest K) := by
  refine cal_of F sc__law_lowest (fun vs H Q E h => by obtain ⟨_, _, rfl, _⟩ := h; rfl) (fun cdv A outer s H vs Q E hr h => ?_)
  obtain ⟨t, b, rfl, b0, hb, q⟩ := h
  refine ⟨_, (pss_cons (ps_set (i := 2) sc__law_lowest.nd rfl (Or.inl rfl) (pe_cc C__law_gcd hr (by decide) (by rfl) (pa_cons (pv 0) (pa_cons (pv 1) pa_nil))))
 (pss_cons (ps_if (pt_cmpR op_lt (pv 1) pe_int (nomark _)) (pss_one (ps_ret (pe_tup (pa_cons (pe_op op_fdivG (pe_un un_neg (pv 0)) (pv 2)) (pa_cons (pe_op op_fdivG (pe_un un_neg (pv 1)) (pv 2)) pa_nil))))) pss_nil)
 (pss_one (ps_ret (pe_tup (pa_cons (pe_op op_fdivG (pv 0) (pv 2)) (pa_cons (pe_op op_fdivG (pv 1) (pv 2)) pa_nil))))))), ?_⟩
  refine w_start (σ := [some _, some _, none]) rfl ?_
  walk_at "go"
  refine ⟨t, b, rfl, hb, ?_⟩
  have g0 : 0 < Nat.gcd t.natAbs b.natAbs := Nat.gcd_pos_of_pos_right _ (by omega)
  have gb : ((Nat.gcd t.natAbs b.natAbs : Nat) : Int).natAbs < 2 ^ 1998 := by
    rw [Int.natAbs_natCast]
    exact Nat.lt_of_le_of_lt (Nat.gcd_le_right _ (by omega)) hb
  generalize hg : Nat.gcd t.natAbs b.natAbs = g at g0 gb
  have dv : ∀ u : Int, CDivG u (g : Int) := fun u => div_ok (by omega) gb (by decide)
  walk_at "go"
  refine ite_d (fun h0 => ?_) (fun h0 => ?_)
  · walk_at "go"
    refine w_I (dv _) ?_
    walk_at "go"
    refine w_I (dv _) ?_
    walk_at "go"
    refine w_newT (show 2 ≤ sizeLine by decide) fun a H1 n1 c1 h1 => ?_
    have l := low_of (t := t) (b := b) (s := -1) (g := g) (.inr rfl) (by omega) hg.symm
    rw [Int.neg_one_mul, Int.neg_one_mul] at l
    exact q a _ _ H1 l c1 (.of h1)
  · walk_at "go"
    refine w_I (dv _) ?_
    walk_at "go"
    refine w_I (dv _) ?_
    walk_at "go"
    refine w_newT (show 2 ≤ sizeLine by decide) fun a H1 n1 c1 h1 => ?_
    have l := low_of (t := t) (b := b) (s := 1) (g := g) (.inl rfl) (by omega) hg.symm
    rw [Int.one_mul, Int.one_mul] at l
    exact q a _ _ H1 l c1 (.of h1)
abbrev s__law_long : Stmt := topS 32
theorem sc__law_long : FnScope ["box", "way", "number"] ["box"] (defScope s__law_long) := ⟨rfl, rfl, rfl, by decide +kernel, rfl, by decide +kernel, by decide +kernel⟩
def sp__law_long : Sp := fun vs H Q _ => ∃ (b : Addr), vs = [.ref b] ∧ RB H b ∧ ∀ (r : Int) H', r.natAbs < 2 ^ 140 → Ch [b] H H' → RB H' b → Q (.int r) H'
theorem pow_le {a : Int} (h1 : 1 ≤ a) {i j : Nat} (h : i ≤ j) : a ^ i ≤ a ^ j := by
  obtain ⟨k, rfl⟩ := Nat.le.dest h
  rw [Int.pow_add]
  have p0 : 0 < a ^ k := Int.pow_pos (by omega)
  have p1 : 1 ≤ a ^ k := by omega
  have p2 : 0 < a ^ i := Int.pow_pos (by omega)
  calc a ^ i = a ^ i * 1 := by rw [Int.mul_one]
    _ ≤ a ^ i * a ^ k := Int.mul_le_mul_of_nonneg_left p1 (by omega)
theorem c__law_long (C__law_take : Cal P w K mg base 1 "_law_take" sp__law_take) (C__law_turned : Cal P w K mg base 2 "_law_turned" sp__law_turned) (C__law_power : Cal P w K mg base 1 "_law_power" sp__law_power) (C__law_limbs : Cal P w K mg base 2 "_law_limbs" sp__law_limbs)
    {f : Addr} {fd : FuncData} (F : DefF K mg "_law_long" s__law_long ["box"] f fd) : Cal P w K mg base 3 "_law_long" sp__law_long := by
  refine cal_of F sc__law_long (fun vs H Q E h => by obtain ⟨_, rfl, _⟩ := h; rfl) (fun cdv A outer s H vs Q E hr h => ?_)
  obtain ⟨b, rfl, B, q⟩ := h
  refine ⟨_, (pss_cons (ps_set (i := 1) sc__law_long.nd rfl (Or.inl rfl) (pe_cc C__law_take hr (by decide) (by rfl) (pa_cons (pv 0) (pa_cons pe_int pa_nil))))
 (Evl.pss_cut (ps_if (pt_cmpR op_lt (pv 1) pe_int (nomark _)) (pss_one (ps_set (i := 2) sc__law_long.nd rfl (Or.inl rfl) (pe_cc C__law_take hr (by decide) (by rfl) (pa_cons (pv 0) (pa_cons pe_int pa_nil))))) (pss_one (ps_if (pt_cmpR op_eq (pv 1) pe_int (nomark _)) (pss_one (ps_set (i := 2) sc__law_long.nd rfl (Or.inl rfl) (pe_cc C__law_take hr (by decide) (by rfl) (pa_cons (pv 0) (pa_cons pe_int pa_nil))))) (pss_one (ps_if (pt_cmpR op_eq (pv 1) pe_int (nomark _)) (pss_one (ps_set (i := 2) sc__law_long.nd rfl (Or.inl rfl) (pe_op op_sub (pe_op op_sub (pe_op op_pow pe_int pe_int) pe_int) (pe_cc C__law_take hr (by decide) (by rfl) (pa_cons (pv 0) (pa_cons pe_int pa_nil)))))) (pss_one (ps_if (pt_cmpR op_eq (pv 1) pe_int (nomark _)) (pss_one (ps_set (i := 2) sc__law_long.nd rfl (Or.inl rfl) (pe_op op_sub (pe_op op_add (pe_cc C__law_power hr (by decide) (by rfl) (pa_cons pe_int (pa_cons (pe_op op_add pe_int (pe_cc C__law_take hr (by decide) (by rfl) (pa_cons (pv 0) (pa_cons pe_int pa_nil)))) pa_nil))) (pe_cc C__law_take hr (by decide) (by rfl) (pa_cons (pv 0) (pa_cons pe_int pa_nil)))) pe_int))) (pss_one (ps_if (pt_cmpR op_eq (pv 1) pe_int (nomark _)) (pss_one (ps_set (i := 2) sc__law_long.nd rfl (Or.inl rfl) (pe_op op_sub (pe_op op_add (pe_cc C__law_power hr (by decide) (by rfl) (pa_cons pe_int (pa_cons (pe_op op_add pe_int (pe_cc C__law_take hr (by decide) (by rfl) (pa_cons (pv 0) (pa_cons pe_int pa_nil)))) pa_nil))) (pe_cc C__law_take hr (by decide) (by rfl) (pa_cons (pv 0) (pa_cons pe_int pa_nil)))) pe_int))) (pss_one (ps_set (i := 2) sc__law_long.nd rfl (Or.inl rfl) (pe_cc C__law_limbs hr (by decide) (by rfl) (pa_cons (pv 0) (pa_cons pe_int pa_nil))))))))))))))
 (pss_one (ps_ret (pe_cc C__law_turned hr (by decide) (by rfl) (pa_cons (pv 0) (pa_cons (pv 2) pa_nil))))))), ?_⟩
  refine w_start (σ := [some _, none, none]) rfl ?_
  walk_at "go"
  refine ⟨b, 7, rfl, B, by decide, by decide +kernel, fun way H1 w0 w1 c1 B1 => ?_⟩
  walk_at "go"
  refine w_cut (M := fun σ' H' => Ch [b] H H' ∧ RB H' b ∧ ∃ v : Int, σ' = [some (.ref b), some (.int way), some (.int v)] ∧ v.natAbs < 2 ^ 140) ?_ ?_
  · walk_at "go"
    refine ite_d (fun h0 => ?_) (fun h0 => ?_)
    · walk_at "go"
      refine ⟨b, 13, rfl, B1, by decide, by decide +kernel, fun r H2 r0 r1 c2 B2 => ⟨c1.trans c2, B2, r, rfl, by omega⟩⟩
    walk_at "go"
    refine ite_d (fun h0 => ?_) (fun h0 => ?_)
    · walk_at "go"
      refine ⟨b, 5000, rfl, B1, by decide, by decide +kernel, fun r H2 r0 r1 c2 B2 => ⟨c1.trans c2, B2, r, rfl, by omega⟩⟩
    walk_at "go"
    refine ite_d (fun h0 => ?_) (fun h0 => ?_)
    · walk_at "go"
      refine ⟨b, 3, rfl, B1, by decide, by decide +kernel, fun r H2 r0 r1 c2 B2 => ?_⟩
      walk_at "go"
      refine ⟨c1.trans c2, B2, _, rfl, ?_⟩
      have e : (10 : Int) ^ Int.toNat 40 = 10000000000000000000000000000000000000000 := by decide +kernel
      rw [e]
      have e2 : (2 : Nat) ^ 140 = 1393796574908163946345982392040522594123776 := by decide +kernel
      omega
    walk_at "go"
    refine ite_d (fun h0 => ?_) (fun h0 => ?_)
    · walk_at "go"
      refine ⟨b, 39, rfl, B1, by decide, by decide +kernel, fun r H2 r0 r1 c2 B2 => ?_⟩
      walk_at "go"
      refine ⟨10, 1 + r, 4, rfl, by decide, by decide, by omega, by omega, ?_⟩
      walk_at "go"
      refine ⟨b, 3, rfl, B2, by decide, by decide +kernel, fun r2 H3 s0 s1 c3 B3 => ?_⟩
      walk_at "go"
      refine ⟨(c1.trans c2).trans c3, B3, _, rfl, ?_⟩
      have l := pow_le (a := 10) (by decide) (show (1 + r).toNat ≤ 39 by omega)
      have p := Int.pow_pos (n := 10) (m := (1 + r).toNat) (by decide)
      have e : (10 : Int) ^ 39 = 1000000000000000000000000000000000000000 := by decide +kernel
      have e2 : (2 : Nat) ^ 140 = 1393796574908163946345982392040522594123776 := by decide +kernel
      omega
    walk_at "go"
    refine ite_d (fun h0 => ?_) (fun h0 => ?_)
    · walk_at "go"
      refine ⟨b, 131, rfl, B1, by decide, by decide +kernel, fun r H2 r0 r1 c2 B2 => ?_⟩
      walk_at "go"
      refine ⟨2, 1 + r, 4, rfl, by decide, by decide, by omega, by omega, ?_⟩
      walk_at "go"
      refine ⟨b, 3, rfl, B2, by decide, by decide +kernel, fun r2 H3 s0 s1 c3 B3 => ?_⟩
      walk_at "go"
      refine ⟨(c1.trans c2).trans c3, B3, _, rfl, ?_⟩
      have l := pow_le (a := 2) (by decide) (show (1 + r).toNat ≤ 131 by omega)
      have p := Int.pow_pos (n := 2) (m := (1 + r).toNat) (by decide)
      have e : (2 : Int) ^ 131 = 2722258935367507707706996859454145691648 := by decide +kernel
      have e2 : (2 : Nat) ^ 140 = 1393796574908163946345982392040522594123776 := by decide +kernel
      omega
    walk_at "go"
    refine ⟨b, 8, rfl, B1, by decide, by decide, fun r H2 r0 r1 c2 B2 => ⟨c1.trans c2, B2, r, rfl, ?_⟩⟩
    have e : (100000 : Int) ^ Int.toNat 8 = 10000000000000000000000000000000000000000 := by decide +kernel
    have e2 : (2 : Nat) ^ 140 = 1393796574908163946345982392040522594123776 := by decide +kernel
    omega
  · rintro σ' H' ⟨c2, B2, v, rfl, hv⟩
    walk_at "go"
    refine ⟨b, v, rfl, B2, fun r H3 er c3 B3 => q r H3 (by rcases er with e | e <;> rw [e] <;> omega) (c2.trans c3) B3⟩
end
end My
namespace My
open PySem PySem.Spec PyProof.Rows L2
section
variable {P : Program} {w : World} {K : PySem.W.Frag} {mg : Str → Option Value} {base : Heap}
abbrev s__law_number : Stmt := topS 35
theorem sc__law_number : FnScope ["box", "way", "bottom", "top"] ["box"] (defScope s__law_number) := ⟨rfl, rfl, rfl, by decide +kernel, rfl, by decide +kernel, by decide +kernel⟩
def sp__law_number (K : PySem.W.Frag) : Sp := fun vs H Q _ => ∃ (b : Addr), vs = [.ref b] ∧ RB H b ∧ ∀ (a : Addr) (n d : Int) H', Num n d → Ch [b] H H' → RB H' b → Fr K H' a n d → Q (.ref a) H'
theorem c__law_number (T : Txt mg) (C__law_take : Cal P w K mg base 1 "_law_take" sp__law_take) (C__law_turned : Cal P w K mg base 2 "_law_turned" sp__law_turned) (C__law_power : Cal P w K mg base 1 "_law_power" sp__law_power) (C__law_limbs : Cal P w K mg base 2 "_law_limbs" sp__law_limbs)
    (C__law_long : Cal P w K mg base 3 "_law_long" sp__law_long) (C__law_lowest : Cal P w K mg base 2 "_law_lowest" (sp__law_lowest K)) {f : Addr} {fd : FuncData} (F : DefF K mg "_law_number" s__law_number ["box"] f fd) : Cal P w K mg base 4 "_law_number" (sp__law_number K) := by
  refine cal_of F sc__law_number (fun vs H Q E h => by obtain ⟨_, rfl, _⟩ := h; rfl) (fun cdv A outer s H vs Q E hr h => ?_)
  obtain ⟨b, rfl, B, q⟩ := h
  refine ⟨_, (pss_cons (ps_set (i := 1) sc__law_number.nd rfl (Or.inl rfl) (pe_cc C__law_take hr (by decide) (by rfl) (pa_cons (pv 0) (pa_cons pe_int pa_nil))))
 (pss_cons (ps_if (pt_cmpR op_eq (pv 1) pe_int (nomark _)) (pss_one (ps_ret (pe_cc C__law_lowest hr (by decide) (by rfl) (pa_cons (pe_op op_sub (pe_cc C__law_take hr (by decide) (by rfl) (pa_cons (pv 0) (pa_cons pe_int pa_nil))) pe_int) (pa_cons (pe_op op_add pe_int (pe_cc C__law_take hr (by decide) (by rfl) (pa_cons (pv 0) (pa_cons pe_int pa_nil)))) pa_nil))))) pss_nil)
 (pss_cons (ps_if (pt_cmpR op_eq (pv 1) pe_int (nomark _)) (pss_one (ps_ret (pe_tup (pa_cons (pe_cc C__law_long hr (by decide) (by rfl) (pa_cons (pv 0) pa_nil)) (pa_cons pe_int pa_nil))))) pss_nil)
 (pss_cons (ps_if (pt_cmpR op_eq (pv 1) pe_int (nomark _)) (pss_one (ps_ret (pe_cc C__law_lowest hr (by decide) (by rfl) (pa_cons (pe_op op_sub (pe_cc C__law_take hr (by decide) (by rfl) (pa_cons (pv 0) (pa_cons pe_int pa_nil))) pe_int) (pa_cons (pe_op op_add pe_int (pe_cc C__law_take hr (by decide) (by rfl) (pa_cons (pv 0) (pa_cons pe_int pa_nil)))) pa_nil))))) pss_nil)
 (pss_cons (ps_if (pt_cmpR op_eq (pv 1) pe_int (nomark _)) (pss_one (ps_ret (pe_cc C__law_lowest hr (by decide) (by rfl) (pa_cons (pe_cc C__law_long hr (by decide) (by rfl) (pa_cons (pv 0) pa_nil)) (pa_cons (pe_cc C__law_power hr (by decide) (by rfl) (pa_cons pe_int (pa_cons (pe_cc C__law_take hr (by decide) (by rfl) (pa_cons (pv 0) (pa_cons pe_int pa_nil))) pa_nil))) pa_nil))))) pss_nil)
 (pss_cons (ps_if (pt_cmpR op_eq (pv 1) pe_int (nomark _)) (pss_cons (ps_set (i := 2) sc__law_number.nd rfl (Or.inl rfl) (pe_op op_add pe_int (pe_cc C__law_limbs hr (by decide) (by rfl) (pa_cons (pv 0) (pa_cons pe_int pa_nil)))))
 (pss_one (ps_ret (pe_cc C__law_lowest hr (by decide) (by rfl) (pa_cons (pe_op op_sub (pe_op op_add (pe_op op_mulG (pe_cc C__law_turned hr (by decide) (by rfl) (pa_cons (pv 0) (pa_cons (pe_cc C__law_limbs hr (by decide) (by rfl) (pa_cons (pv 0) (pa_cons pe_int pa_nil))) pa_nil))) (pv 2)) (pe_cc C__law_take hr (by decide) (by rfl) (pa_cons (pv 0) (pa_cons pe_int pa_nil)))) pe_int) (pa_cons (pv 2) pa_nil)))))) pss_nil)
 (pss_cons (ps_set (i := 3) sc__law_number.nd rfl (Or.inl rfl) (pe_cc C__law_long hr (by decide) (by rfl) (pa_cons (pv 0) pa_nil)))
 (pss_cons (ps_set (i := 2) sc__law_number.nd rfl (Or.inl rfl) (pe_callB cb_abs (by rfl) T.z_abs (by decide +kernel) (pa_cons (pe_cc C__law_long hr (by decide) (by rfl) (pa_cons (pv 0) pa_nil)) pa_nil)))
 (Evl.pss_cut (ps_if (pt_cmpR op_eq (pv 2) pe_int (nomark _)) (pss_one (ps_set (i := 2) sc__law_number.nd rfl (Or.inl rfl) pe_int)) pss_nil)
 (pss_one (ps_ret (pe_cc C__law_lowest hr (by decide) (by rfl) (pa_cons (pv 3) (pa_cons (pv 2) pa_nil)))))))))))))), ?_⟩
  refine w_start (σ := [some _, none, none, none]) rfl ?_
  have big : ∀ {x : Int} {j : Nat}, x.natAbs < 2 ^ j → j ≤ 160 → x.natAbs < 2 ^ 160 := fun h hj => abs_mono h hj
  have fin : ∀ {t u : Int} {Hx : Hp}, u ≠ 0 → t.natAbs < 2 ^ 160 → u.natAbs < 2 ^ 160 → Ch [b] H Hx → RB Hx b → sp__law_lowest K ([.int t, .int u] ++ []) Hx Q E0 := fun u0 ht hu c B => ⟨_, _, rfl, u0, abs_mono hu (by decide), fun a n d H' l c2 fr => q a n d H' (l.num ht hu) (c.trans0 c2) (B.mono c2) fr⟩
  walk_at "go"
  refine ⟨b, 6, rfl, B, by decide, by decide +kernel, fun way H1 w0 w1 c1 B1 => ?_⟩
  walk_at "go"
  refine ite_d (fun h0 => ?_) (fun h0 => ?_)
  · walk_at "go"
    refine ⟨b, 25, rfl, B1, by decide, by decide +kernel, fun r H2 r0 r1 c2 B2 => ?_⟩
    walk_at "go"
    refine ⟨b, 12, rfl, B2, by decide, by decide +kernel, fun r2 H3 s0 s1 c3 B3 => ?_⟩
    walk_at "go"
    exact fin (by omega) (big (j := 10) (by omega) (by decide)) (big (j := 10) (by omega) (by decide)) ((c1.trans c2).trans c3) B3
  walk_at "go"
  refine ite_d (fun h1 => ?_) (fun h1 => ?_)
  · walk_at "go"
    refine ⟨b, rfl, B1, fun r H2 hr2 c2 B2 => ?_⟩
    walk_at "go"
    refine w_newT (show 2 ≤ sizeLine by decide) fun a H3 n3 c3 h3 => ?_
    exact q a r 1 H3 ⟨by decide, Nat.gcd_one_right _, big hr2 (by decide), by decide +kernel⟩ ((c1.trans c2).trans0 c3) (B2.mono c3) (.of h3)
  walk_at "go"
  refine ite_d (fun h2 => ?_) (fun h2 => ?_)
  · walk_at "go"
    refine ⟨b, 2001, rfl, B1, by decide, by decide +kernel, fun r H2 r0 r1 c2 B2 => ?_⟩
    walk_at "go"
    refine ⟨b, 60, rfl, B2, by decide, by decide +kernel, fun r2 H3 s0 s1 c3 B3 => ?_⟩
    walk_at "go"
    exact fin (by omega) (big (j := 20) (by omega) (by decide)) (big (j := 10) (by omega) (by decide)) ((c1.trans c2).trans c3) B3
  walk_at "go"
  refine ite_d (fun h3 => ?_) (fun h3 => ?_)
  · walk_at "go"
    refine ⟨b, rfl, B1, fun r H2 hr2 c2 B2 => ?_⟩
    walk_at "go"
    refine ⟨b, 40, rfl, B2, by decide, by decide +kernel, fun r2 H3 s0 s1 c3 B3 => ?_⟩
    walk_at "go"
    refine ⟨10, r2, 4, rfl, by decide, by decide, s0, by omega, ?_⟩
    walk_at "go"
    have p := Int.pow_pos (n := 10) (m := r2.toNat) (by decide)
    refine fin (by omega) (big hr2 (by decide)) (abs_mono (abs_pow_lt (b := 4) (s := r2.toNat) (a := 10) (by decide)) (by omega)) ((c1.trans c2).trans c3) B3
  walk_at "go"
  refine ite_d (fun h4 => ?_) (fun h4 => ?_)
  · walk_at "go"
    refine ⟨b, 3, rfl, B1, by decide, by decide, fun r H2 r0 r1 c2 B2 => ?_⟩
    have e3 : (100000 : Int) ^ Int.toNat 3 = 1000000000000000 := by decide +kernel
    rw [e3] at r1
    walk_at "go"
    refine ⟨b, 3, rfl, B2, by decide, by decide, fun r2 H3 s0 s1 c3 B3 => ?_⟩
    rw [e3] at s1
    walk_at "go"
    refine ⟨b, r2, rfl, B3, fun u H4 eu c4 B4 => ?_⟩
    walk_at "go"
    refine w_I (mul_ok_r (by omega)) ?_
    walk_at "go"
    refine ⟨b, 3, rfl, B4, by decide, by decide +kernel, fun r3 H5 t0 t1 c5 B5 => ?_⟩
    walk_at "go"
    refine fin (by omega) ?_ (big (j := 60) (by omega) (by decide)) ((((c1.trans c2).trans c3).trans c4).trans c5) B5
    have m1 : (u * (1 + r)).natAbs ≤ 1000000000000000 * 1000000000000001 := by
      rw [Int.natAbs_mul]
      exact Nat.mul_le_mul (by rcases eu with e | e <;> omega) (by omega)
    exact big (j := 120) (by omega) (by decide)
  walk_at "go"
  refine ⟨b, rfl, B1, fun r H2 hr2 c2 B2 => ?_⟩
  walk_at "go"
  refine ⟨b, rfl, B2, fun r2 H3 hr3 c3 B3 => ?_⟩
  walk_at "go"
  refine w_cut (M := fun σ' H' => H' = H3 ∧ ∃ u : Int, σ' = [some (.ref b), some (.int way), some (.int u), some (.int r)] ∧ u ≠ 0 ∧ u.natAbs < 2 ^ 140) ?_ ?_
  · walk_at "go"
    refine ite_d (fun h5 => ?_) (fun h5 => ?_)
    · walk_at "go"
      exact ⟨rfl, 1, rfl, by decide, by decide +kernel⟩
    · walk_at "go"
      exact ⟨rfl, _, rfl, h5, by rw [Int.natAbs_natCast]; exact hr3⟩
  · rintro σ' H' ⟨rfl, u, rfl, u0, ub⟩
    walk_at "go"
    exact fin u0 (big hr2 (by decide)) (big ub (by decide)) ((c1.trans c2).trans c3) B3
end
end My
namespace My
open PySem PySem.Spec PyProof.Rows L2
/-- a def with defaults, called with them or without -/
structure DefE (K : PySem.W.Frag) (mg : Str → Option Value) (x : Str) (st : Stmt) (ps : List Str) (dvs : List V) (f : Addr) (fd : FuncData) : Prop where
  fn : FunD K x x (defArgs st) (defBody st) (defScope st) dvs [] f fd
  mgf : mg x = some (.ref f)
  bi : Binds K fd ps []
  bd : ∃ ds, Vals dvs ds ∧ Binds K fd ps ds
section
variable {P : Program} {w : World} {K : PySem.W.Frag} {mg : Str → Option Value} {base : Heap}
theorem cal_ofE {x : Str} {st : Stmt} {f : Addr} {fd : FuncData} {N ps : List Str} {dvs : List V} {k : Nat} {sp : Sp} (F : DefE K mg x st ps dvs f fd) (S : FnScope N ps (defScope st)) (len : ∀ vs H Q E, sp vs H Q E → vs.length = ps.length)
    (hbody : ∀ (cdv : Value) (A : Around) (outer : List Env) (s : Shared) (H : Hp) (vs : List V) (Q : VK) (E : XK), Room k (A.deeper (envOfC x (defScope st) s.heap.objs.size f cdv)) → sp vs H Q E →
      ∃ t, PSs (cxOf (L2N.CX P w) P w K mg base N x (defScope st) f cdv A outer s H E) (defBody st) t ∧ t { nx := fun _ H' => Q .non H', rt := Q } (start N vs) H) : CalN P w K mg base (k + 1) x sp ∧ CalD P w K mg base (k + 1) x dvs sp := by
  have ok := F.fn.ok (CX := L2N.CX P w) (P := P) (w := w) (mg := mg) (base := base) S len hbody
  obtain ⟨ds, v, b⟩ := F.bd
  exact ⟨⟨f, fd, ps, ok, F.mgf, F.fn.kp, F.bi⟩, ⟨f, fd, ps, ds, ok, F.mgf, F.fn.kp, b, v⟩⟩
theorem exact_neg {g n' : Int} (h : g ≠ 0) : (g * n').fdiv (-g) = -n' := by
  rw [show g * n' = -g * -n' by rw [Int.neg_mul, Int.mul_neg, Int.neg_neg]]
  exact Int.mul_fdiv_cancel_left _ (by omega)
theorem exact_pos {g n' : Int} (h : g ≠ 0) : (g * n').fdiv g = n' := Int.mul_fdiv_cancel_left _ h
theorem low_frac {n d : Int} (hd : d ≠ 0) : Low n d (n.fdiv (if d < 0 then -((Nat.gcd n.natAbs d.natAbs : Nat) : Int) else ((Nat.gcd n.natAbs d.natAbs : Nat) : Int))) (d.fdiv (if d < 0 then -((Nat.gcd n.natAbs d.natAbs : Nat) : Int) else ((Nat.gcd n.natAbs d.natAbs : Nat) : Int))) := by
  generalize hg : Nat.gcd n.natAbs d.natAbs = g
  have g0 : 0 < g := by
    rw [← hg]
    exact Nat.gcd_pos_of_pos_right _ (by omega)
  obtain ⟨n', en⟩ := Int.ofNat_dvd_left.mpr (by rw [← hg]; exact Nat.gcd_dvd_left n.natAbs d.natAbs : g ∣ n.natAbs)
  obtain ⟨d', ed⟩ := Int.ofNat_dvd_left.mpr (by rw [← hg]; exact Nat.gcd_dvd_right n.natAbs d.natAbs : g ∣ d.natAbs)
  have gi : (g : Int) ≠ 0 := by omega
  by_cases c : d < 0
  · have l := low_of (t := n) (b := d) (s := -1) (g := g) (.inr rfl) (by omega) hg.symm
    rw [if_pos c]
    rw [en, ed, exact_neg gi, exact_neg gi]
    rw [Int.neg_one_mul, Int.neg_one_mul, en, ed, ← Int.mul_neg, ← Int.mul_neg, exact_pos gi, exact_pos gi] at l
    exact l
  · have l := low_of (t := n) (b := d) (s := 1) (g := g) (.inl rfl) (by omega) hg.symm
    rw [if_neg c]
    rw [Int.one_mul, Int.one_mul] at l
    exact l
abbrev s_fraction : Stmt := topS 11
theorem sc_fraction : FnScope ["n", "d", "common"] ["n", "d"] (defScope s_fraction) := ⟨rfl, rfl, rfl, by decide +kernel, rfl, by decide +kernel, by decide +kernel⟩
def sp_fraction (K : PySem.W.Frag) (C : Addr) : Sp := fun vs H Q E => ∃ (n d : Int), vs = [.int n, .int d] ∧ d.natAbs < 2 ^ 8000 ∧ (d = 0 → E (.ref C) none H) ∧ (d ≠ 0 → ∀ (t : Addr) (x y : Int) H', Low n d x y → Ch [] H H' → Fr K H' t x y → Q (.ref t) H')
theorem c_fraction (m_gcd : mg "gcd" = some (.builtin "math.gcd")) {A_DivisionByZero : Addr} (X_DivisionByZero : ExcF K mg "DivisionByZero" A_DivisionByZero) {f : Addr} {fd : FuncData} (F : DefE K mg "fraction" s_fraction ["n", "d"] [.int 1] f fd) :
    CalN P w K mg base 1 "fraction" (sp_fraction K A_DivisionByZero) ∧ CalD P w K mg base 1 "fraction" [.int 1] (sp_fraction K A_DivisionByZero) := by
  refine cal_ofE F sc_fraction (fun vs H Q E h => by obtain ⟨_, _, rfl, _⟩ := h; rfl) (fun cdv A outer s H vs Q E hr h => ?_)
  obtain ⟨n, d, rfl, bd, qE, q⟩ := h
  refine ⟨_, (pss_cons (ps_if (pt_cmpR op_eq (pv 1) pe_int (nomark _)) (pss_one (L2N.ps_raise rfl (L2N.takes_of rfl rfl rfl rfl) (pmk_own0N PySem.F.excBase_ValueError X_DivisionByZero.xin X_DivisionByZero.gl X_DivisionByZero.kp (raises_own X_DivisionByZero.sub X_DivisionByZero.ty) (by rfl)))) pss_nil)
 (PSs.nox (pss_cons (ps_set (i := 2) sc_fraction.nd rfl (Or.inl rfl) (pe_callBfun cr_gcd (by rfl) m_gcd (pa_cons (pv 0) (pa_cons (pv 1) pa_nil))))
 (Evl.pss_cut (ps_if (pt_cmpR op_lt (pv 1) pe_int (nomark _)) (pss_one (ps_set (i := 2) sc_fraction.nd rfl (Or.inl rfl) (pe_un un_neg (pv 2)))) pss_nil)
 (pss_one (ps_ret (pe_tup (pa_cons (pe_op op_fdivG (pv 0) (pv 2)) (pa_cons (pe_op op_fdivG (pv 1) (pv 2)) pa_nil))))))))), ?_⟩
  refine w_start (σ := [some _, some _, none]) rfl ?_
  walk_at "go"
  refine ite_d (fun h0 => ?_) (fun h0 => ?_)
  · exact qE h0
  have q := q h0
  have l := low_frac (n := n) h0
  have g0 : 0 < Nat.gcd n.natAbs d.natAbs := Nat.gcd_pos_of_pos_right _ (by omega)
  have gb : ((Nat.gcd n.natAbs d.natAbs : Nat) : Int).natAbs < 2 ^ 8000 := by
    rw [Int.natAbs_natCast]
    exact Nat.lt_of_le_of_lt (Nat.gcd_le_right _ (by omega)) bd
  walk_at "go"
  generalize Nat.gcd n.natAbs d.natAbs = g at l g0 gb ⊢
  refine w_cut (M := fun σ' H' => H' = H ∧ σ' = [some (.int n), some (.int d), some (.int (if d < 0 then -(g : Int) else (g : Int)))]) ?_ ?_
  · walk_at "go"
    refine ite_d (fun h1 => ?_) (fun h1 => ?_)
    · walk_at "go"
      rw [if_pos h1]
      exact ⟨rfl, rfl⟩
    · walk_at "go"
      rw [if_neg h1]
      exact ⟨rfl, rfl⟩
  rintro σ' H' ⟨rfl, rfl⟩
  have c0 : (if d < 0 then -(g : Int) else (g : Int)) ≠ 0 ∧ (if d < 0 then -(g : Int) else (g : Int)).natAbs < 2 ^ 8000 := by split <;> omega
  generalize (if d < 0 then -(g : Int) else (g : Int)) = c at l c0 ⊢
  walk_at "go"
  refine w_I (div_ok c0.1 c0.2 (by decide)) ?_
  walk_at "go"
  refine w_I (div_ok c0.1 c0.2 (by decide)) ?_
  walk_at "go"
  refine w_newT (show 2 ≤ sizeLine by decide) fun t H1 n1 c1 h1 => ?_
  exact q t _ _ H1 l c1 (.of h1)
end
theorem mulb {x y : Int} {a b : Nat} (hx : x.natAbs < 2 ^ a) (hy : y.natAbs < 2 ^ b) : (x * y).natAbs < 2 ^ (a + b) := by
  rw [Int.natAbs_mul, Nat.pow_add]
  exact Nat.mul_lt_mul'' hx hy
section
variable {P : Program} {w : World} {K : PySem.W.Frag} {mg : Str → Option Value} {base : Heap}
/-- what two fractions give: top and bottom before they are brought to lowest terms -/
def sp_two (K : PySem.W.Frag) (g : Int → Int → Int → Int → Int × Int) : Sp := fun vs H Q _ => ∃ (a b : Addr) (n d m e : Int) (z : Nat), vs = [.ref a, .ref b] ∧ Fr K H a n d ∧ Fr K H b m e ∧ 0 < d ∧ 0 < e ∧ n.natAbs < 2 ^ z ∧ d.natAbs < 2 ^ z ∧ m.natAbs < 2 ^ z ∧ e.natAbs < 2 ^ z ∧ z ≤ 3000 ∧
  ∀ (t : Addr) (x y : Int) H', Low (g n d m e).1 (g n d m e).2 x y → Ch [] H H' → Fr K H' t x y → Q (.ref t) H'
abbrev s_plus : Stmt := topS 12
theorem sc_plus : FnScope ["a", "b"] ["a", "b"] (defScope s_plus) := ⟨rfl, rfl, rfl, by decide +kernel, rfl, by decide +kernel, by decide +kernel⟩
theorem c_plus {A_DivisionByZero : Addr} (C_fraction : CalN P w K mg base 1 "fraction" (sp_fraction K A_DivisionByZero)) {f : Addr} {fd : FuncData} (F : DefF K mg "plus" s_plus ["a", "b"] f fd) : Cal P w K mg base 2 "plus" (sp_two K fun n d m e => (n * e + m * d, d * e)) := by
  refine cal_of F sc_plus (fun vs H Q E h => by obtain ⟨_, _, _, _, _, _, _, rfl, _⟩ := h; rfl) (fun cdv A outer s H vs Q E hr h => ?_)
  obtain ⟨a, b, n, d, m, e, z, rfl, fa, fb, d0, e0, b1, b2, b3, b4, hz, q⟩ := h
  refine ⟨_, (pss_one (ps_ret (pe_ccN C_fraction hr (by decide) (by rfl) (pa_cons (pe_op op_add (pe_op op_mulG (pe_ix (k_ixT (K := K) rfl) (pv 0) pe_int (fun _ _ => rfl)) (pe_ix (k_ixT (K := K) rfl) (pv 1) pe_int (fun _ _ => rfl))) (pe_op op_mulG (pe_ix (k_ixT (K := K) rfl) (pv 1) pe_int (fun _ _ => rfl)) (pe_ix (k_ixT (K := K) rfl) (pv 0) pe_int (fun _ _ => rfl)))) (pa_cons (pe_op op_mulG (pe_ix (k_ixT (K := K) rfl) (pv 0) pe_int (fun _ _ => rfl)) (pe_ix (k_ixT (K := K) rfl) (pv 1) pe_int (fun _ _ => rfl))) pa_nil))))), ?_⟩
  refine w_start (σ := [some _, some _]) rfl ?_
  walk_at "go"
  refine w_I (mul_ok b1 b4 (by omega)) ?_
  walk_at "go"
  refine w_I (mul_ok b3 b2 (by omega)) ?_
  walk_at "go"
  refine w_I (mul_ok b2 b4 (by omega)) ?_
  walk_at "go"
  refine ⟨_, _, rfl, abs_mono (mulb b2 b4) (by omega), fun h => absurd h (Int.ne_of_gt (Int.mul_pos d0 e0)), fun _ t x y H' l c ft => q t x y H' l c ft⟩
abbrev s_times : Stmt := topS 13
theorem sc_times : FnScope ["a", "b"] ["a", "b"] (defScope s_times) := ⟨rfl, rfl, rfl, by decide +kernel, rfl, by decide +kernel, by decide +kernel⟩
theorem c_times {A_DivisionByZero : Addr} (C_fraction : CalN P w K mg base 1 "fraction" (sp_fraction K A_DivisionByZero)) {f : Addr} {fd : FuncData} (F : DefF K mg "times" s_times ["a", "b"] f fd) : Cal P w K mg base 2 "times" (sp_two K fun n d m e => (n * m, d * e)) := by
  refine cal_of F sc_times (fun vs H Q E h => by obtain ⟨_, _, _, _, _, _, _, rfl, _⟩ := h; rfl) (fun cdv A outer s H vs Q E hr h => ?_)
  obtain ⟨a, b, n, d, m, e, z, rfl, fa, fb, d0, e0, b1, b2, b3, b4, hz, q⟩ := h
  refine ⟨_, (pss_one (ps_ret (pe_ccN C_fraction hr (by decide) (by rfl) (pa_cons (pe_op op_mulG (pe_ix (k_ixT (K := K) rfl) (pv 0) pe_int (fun _ _ => rfl)) (pe_ix (k_ixT (K := K) rfl) (pv 1) pe_int (fun _ _ => rfl))) (pa_cons (pe_op op_mulG (pe_ix (k_ixT (K := K) rfl) (pv 0) pe_int (fun _ _ => rfl)) (pe_ix (k_ixT (K := K) rfl) (pv 1) pe_int (fun _ _ => rfl))) pa_nil))))), ?_⟩
  refine w_start (σ := [some _, some _]) rfl ?_
  walk_at "go"
  refine w_I (mul_ok b1 b3 (by omega)) ?_
  walk_at "go"
  refine w_I (mul_ok b2 b4 (by omega)) ?_
  walk_at "go"
  refine ⟨_, _, rfl, abs_mono (mulb b2 b4) (by omega), fun h => absurd h (Int.ne_of_gt (Int.mul_pos d0 e0)), fun _ t x y H' l c ft => q t x y H' l c ft⟩
end
end My
namespace My
open PySem PySem.Spec PyProof.Rows L2
open SX (S S_cat S_len S_tl S_inj)
open TL (numL tl)
open PySem.NumText (AllDigits digitsVal)
section
variable {P : Program} {w : World} {K : PySem.W.Frag} {mg : Str → Option Value} {base : Heap}
abbrev s_whole_power : Stmt := topS 10
theorem sc_whole_power : FnScope ["a", "n", "power", "square", "left"] ["a", "n"] (defScope s_whole_power) := ⟨rfl, rfl, rfl, by decide +kernel, rfl, by decide +kernel, by decide +kernel⟩
def sp_whole_power : Sp := fun vs H Q _ => ∃ (a : Int) (n b : Nat), vs = [.int a, .int n] ∧ a.natAbs < 2 ^ b ∧ b * n ≤ 1000000 ∧ n ≤ 1000000 ∧ Q (.int (a ^ n)) H
theorem c_whole_power {f : Addr} {fd : FuncData} (F : DefF K mg "whole_power" s_whole_power ["a", "n"] f fd) : Cal P w K mg base 1 "whole_power" sp_whole_power := by
  refine cal_of F sc_whole_power (fun vs H Q E h => by obtain ⟨_, _, _, rfl, _⟩ := h; rfl) (fun cdv A outer s H vs Q E hr h => ?_)
  obtain ⟨a, n, b, rfl, hb, hbn, hn, q⟩ := h
  refine ⟨_, (pss_cons (ps_set (i := 2) sc_whole_power.nd rfl (Or.inl rfl) pe_int)
 (pss_cons (ps_set (i := 3) sc_whole_power.nd rfl (Or.inl rfl) (pv 0))
 (pss_cons (ps_set (i := 4) sc_whole_power.nd rfl (Or.inl rfl) (pv 1))
 (pss_cons (ps_while PassesOwn.never (pt_cmpR op_gt (pv 4) pe_int (nomark _)) (Evl.pss_cut (ps_if (pt_cmpR op_eq (pe_op op_mod (pv 4) pe_int) pe_int (nomark _)) (pss_one (ps_set (i := 2) sc_whole_power.nd rfl (Or.inl rfl) (pe_op op_mulG (pv 2) (pv 3)))) pss_nil)
 (pss_cons (ps_set (i := 4) sc_whole_power.nd rfl (Or.inl rfl) (pe_op op_fdiv (pv 4) pe_int))
 (pss_one (ps_if (pt_cmpR op_gt (pv 4) pe_int (nomark _)) (pss_one (ps_set (i := 3) sc_whole_power.nd rfl (Or.inl rfl) (pe_op op_mulG (pv 3) (pv 3)))) pss_nil)))))
 (pss_one (ps_ret (pv 2))))))), ?_⟩
  refine w_start (σ := [some _, some _, none, none, none]) rfl ?_
  walk_at "go"
  refine w_while (fun m σ H' => H' = H ∧ ∃ (s l pw : Nat), σ = [some (.int a), some (.int n), some (.int (a ^ pw)), some (.int (a ^ s)), some (.int (l : Int))] ∧ pw + s * l = n ∧ m = l ∧ l ≤ n ∧ (0 < l → s ≤ n)) n ⟨rfl, 1, n, 0, ?_, by omega, rfl, Nat.le_refl _, fun h => h⟩ ?_
  · rw [Int.pow_zero, Int.pow_succ, Int.pow_zero, Int.one_mul]
    rfl
  rintro m σ H' ⟨rfl, s', l, pw, rfl, e1, rfl, hl, hs⟩
  walk_at "go"
  refine ite_d (fun h0 => ?_) (fun h0 => ?_)
  · have h1 : 0 < m := by omega
    have hsn := hs h1
    walk_at "go"
    have hsz : b * s' + 1 ≤ 1000001 := by
      have := Nat.mul_le_mul_left b hsn
      omega
    have hpz : b * pw + 1 ≤ 1000001 := by
      have : pw ≤ n := by omega
      have := Nat.mul_le_mul_left b this
      omega
    have bs := abs_pow_lt (s := s') hb
    have bp := abs_pow_lt (s := pw) hb
    refine w_cut (M := fun σ' H'' => H'' = H' ∧ ∃ pw' : Nat, σ' = [some (.int a), some (.int n), some (.int (a ^ pw')), some (.int (a ^ s')), some (.int (m : Int))] ∧ pw' + s' * 2 * (m / 2) = n) ?_ ?_
    · walk_at "go"
      refine ite_d (fun ho => ?_) (fun ho => ?_)
      · walk_at "go"
        refine w_I (mul_ok bp bs (by omega)) ?_
        refine ⟨rfl, pw + s', ?_, ?_⟩
        · rw [← Int.pow_add]
          rfl
        · have em : m = 2 * (m / 2) + 1 := by omega
          have e2 : s' * m = s' * (2 * (m / 2)) + s' := by
            conv => lhs; rw [em]
            rw [Nat.mul_add, Nat.mul_one]
          rw [Nat.mul_assoc]
          omega
      · walk_at "go"
        refine ⟨rfl, pw, rfl, ?_⟩
        have em : m = 2 * (m / 2) := by omega
        rw [Nat.mul_assoc, ← em]
        exact e1
    · rintro σ' H'' ⟨rfl, pw', rfl, ep⟩
      walk_at "go"
      have ed : (m : Int) / 2 = ((m / 2 : Nat) : Int) := by omega
      refine ite_d (fun h2 => ?_) (fun h2 => ?_)
      · walk_at "go"
        refine w_I (mul_ok bs bs (by omega)) ?_
        refine ⟨m / 2, by omega, rfl, s' * 2, m / 2, pw', ?_, ep, rfl, by omega, fun _ => ?_⟩
        · rw [ed, Nat.mul_two, Int.pow_add]
          rfl
        · have h3 : 1 ≤ m / 2 := by omega
          have := Nat.mul_le_mul_left (s' * 2) h3
          omega
      · walk_at "go"
        have h3 : m / 2 = 0 := by omega
        refine ⟨m / 2, by omega, rfl, s', m / 2, pw', ?_, ?_, rfl, by omega, fun h => absurd h (by omega)⟩
        · rw [ed]
          rfl
        · rw [h3] at ep ⊢
          omega
  · have h1 : m = 0 := by omega
    subst h1
    walk_at "go"
    have : pw = n := by omega
    subst this
    exact q

/-! ### the text of an integer -/
abbrev s__digits : Stmt := topS 15
theorem sc__digits : FnScope ["n", "run", "text", "left", "low"] ["n"] (defScope s__digits) := ⟨rfl, rfl, rfl, by decide +kernel, rfl, by decide +kernel, by decide +kernel⟩
def sp__digits : Sp := fun vs H Q _ => ∃ n : Int, vs = [.int n] ∧ 0 ≤ n ∧ n.natAbs < 2 ^ 1900 ∧ Q (.str (S (numL n.natAbs))) H
theorem c__digits {t_RUN : Tok} (T : Txt mg) (z_str : mg "str" = none) (z_divmod : mg "divmod" = none) (G__RUN : mg "_RUN" = some (.int 600 t_RUN)) (C_whole_power : Cal P w K mg base 1 "whole_power" sp_whole_power) {f : Addr} {fd : FuncData} (F : DefF K mg "_digits" s__digits ["n"] f fd) : Cal P w K mg base 2 "_digits" sp__digits := by
  refine cal_of F sc__digits (fun vs H Q E h => by obtain ⟨_, rfl, _⟩ := h; rfl) (fun cdv A outer s H vs Q E hr h => ?_)
  obtain ⟨n, rfl, n0, nb, q⟩ := h
  refine ⟨_, (pss_cons (ps_set (i := 1) sc__digits.nd rfl (Or.inl rfl) (pe_cc C_whole_power hr (by decide) (by rfl) (pa_cons pe_int (pa_cons (pe_glob (v := .int 600) (by rfl) G__RUN ⟨_, rfl⟩) pa_nil))))
 (pss_cons (ps_set (i := 2) sc__digits.nd rfl (Or.inl rfl) pe_str)
 (pss_cons (ps_set (i := 3) sc__digits.nd rfl (Or.inl rfl) (pv 0))
 (pss_cons (ps_while PassesOwn.never (pt_cmpR op_ge (pv 3) (pv 1) (nomark _)) (pss_cons (ps_asg (pe_callB cb_dm (by rfl) z_divmod (by decide +kernel) (pa_cons (pv 3) (pa_cons (pv 1) pa_nil))) (k_gtup (K := K) rfl rfl (pgs_cons (pg_name (i := 3) sc__digits.nd rfl (Or.inl rfl)) (pgs_cons (pg_name (i := 4) sc__digits.nd rfl (Or.inl rfl)) pgs_nil))))
 (pss_one (ps_set (i := 2) sc__digits.nd rfl (Or.inl rfl) (pe_op op_addS (pe_bm PySem.F.plainAttrs_str PySem.F.slot_str_zfill PySem.F.type_str_zfill mt_zfillS (pe_callTy cb_strI (by rfl) z_str (by decide +kernel) (pa_cons (pv 4) pa_nil)) (pa_cons (pe_glob (v := .int 600) (by rfl) G__RUN ⟨_, rfl⟩) pa_nil)) (pv 2))))))
 (pss_one (ps_ret (pe_op op_addS (pe_callTy cb_strI (by rfl) z_str (by decide +kernel) (pa_cons (pv 3) pa_nil)) (pv 2)))))))), ?_⟩
  refine w_start (σ := [some _, none, none, none, none]) rfl ?_
  have big : (n : Int) < (10 : Int) ^ 600 := by
    have e : (2 : Nat) ^ 1900 ≤ 10 ^ 600 := by decide +kernel
    have e2 : ((10 : Int) ^ 600) = ((10 ^ 600 : Nat) : Int) := by rw [Int.natCast_pow]; rfl
    rw [e2]
    omega
  walk_at "go"
  refine ⟨10, 600, 4, rfl, by decide, by decide, by decide, ?_⟩
  walk_at "go"
  refine w_while (fun m σ H' => H' = H ∧ σ = [some (.int n), some (.int ((10 : Int) ^ 600)), some (.str (Str.ofString "")), some (.int n), none]) 0 ⟨rfl, rfl⟩ ?_
  rintro m σ H' ⟨rfl, rfl⟩
  walk_at "go"
  refine ite_d (fun h0 => ?_) (fun h0 => ?_)
  · exact absurd h0 (by omega)
  walk_at "go"
  have ln := intL_len (n := n) (k := 600) (by decide) (Nat.lt_of_lt_of_le nb (by decide +kernel))
  refine w_strI nb ?_
  walk_at "go"
  rw [lit_empty, S_cat, List.append_nil, intL_pos (by omega)]
  exact q
abbrev s__write_integer : Stmt := topS 16
theorem sc__write_integer : FnScope ["n"] ["n"] (defScope s__write_integer) := ⟨rfl, rfl, rfl, by decide +kernel, rfl, by decide +kernel, by decide +kernel⟩
def sp__write_integer : Sp := fun vs H Q _ => ∃ n : Int, vs = [.int n] ∧ n.natAbs < 2 ^ 1900 ∧ Q (.str (S (intL n))) H
theorem c__write_integer (C__digits : Cal P w K mg base 2 "_digits" sp__digits) {f : Addr} {fd : FuncData} (F : DefF K mg "_write_integer" s__write_integer ["n"] f fd) : Cal P w K mg base 3 "_write_integer" sp__write_integer := by
  refine cal_of F sc__write_integer (fun vs H Q E h => by obtain ⟨_, rfl, _⟩ := h; rfl) (fun cdv A outer s H vs Q E hr h => ?_)
  obtain ⟨n, rfl, nb, q⟩ := h
  have ln := numL_len_pow (n := n.natAbs) (k := 600) (by decide) (Nat.lt_of_lt_of_le nb (by decide +kernel))
  refine ⟨_, (pss_cons (ps_if (pt_cmpR op_lt (pv 0) pe_int (nomark _)) (pss_one (ps_ret (pe_op op_addS pe_str (pe_cc C__digits hr (by decide) (by rfl) (pa_cons (pe_un un_neg (pv 0)) pa_nil))))) pss_nil)
 (pss_one (ps_ret (pe_cc C__digits hr (by decide) (by rfl) (pa_cons (pv 0) pa_nil))))), ?_⟩
  refine w_start (σ := [some _]) rfl ?_
  walk_at "go"
  refine ite_d (fun h0 => ?_) (fun h0 => ?_)
  · walk_at "go"
    refine ⟨-n, rfl, by omega, by omega, ?_⟩
    rw [Int.natAbs_neg]
    walk_at "go"
    rw [lit_minus, S_cat]
    rw [intL_neg h0] at q
    exact q
  · walk_at "go"
    refine ⟨n, rfl, by omega, nb, ?_⟩
    rw [intL_pos h0] at q
    exact q
abbrev s_write_fraction : Stmt := topS 20
theorem sc_write_fraction : FnScope ["a"] ["a"] (defScope s_write_fraction) := ⟨rfl, rfl, rfl, by decide +kernel, rfl, by decide +kernel, by decide +kernel⟩
def sp_write_fraction (K : PySem.W.Frag) : Sp := fun vs H Q _ => ∃ (a : Addr) (n d : Int), vs = [.ref a] ∧ Fr K H a n d ∧ n.natAbs < 2 ^ 1900 ∧ d.natAbs < 2 ^ 1900 ∧ Q (.str (S (fracL n d))) H
theorem c_write_fraction (C__write_integer : Cal P w K mg base 3 "_write_integer" sp__write_integer) {f : Addr} {fd : FuncData} (F : DefF K mg "write_fraction" s_write_fraction ["a"] f fd) : Cal P w K mg base 4 "write_fraction" (sp_write_fraction K) := by
  refine cal_of F sc_write_fraction (fun vs H Q E h => by obtain ⟨_, _, _, rfl, _⟩ := h; rfl) (fun cdv A outer s H vs Q E hr h => ?_)
  obtain ⟨a, n, d, rfl, fa, nb, db, q⟩ := h
  have ln := intL_len (n := n) (k := 600) (by decide) (Nat.lt_of_lt_of_le nb (by decide +kernel))
  have ld := intL_len (n := d) (k := 600) (by decide) (Nat.lt_of_lt_of_le db (by decide +kernel))
  refine ⟨_, (pss_cons (ps_if (pt_cmpR op_eq (pe_ix (k_ixT (K := K) rfl) (pv 0) pe_int (fun _ _ => rfl)) pe_int (nomark _)) (pss_one (ps_ret (pe_cc C__write_integer hr (by decide) (by rfl) (pa_cons (pe_ix (k_ixT (K := K) rfl) (pv 0) pe_int (fun _ _ => rfl)) pa_nil)))) pss_nil)
 (pss_one (ps_ret (pe_op op_addS (pe_op op_addS (pe_cc C__write_integer hr (by decide) (by rfl) (pa_cons (pe_ix (k_ixT (K := K) rfl) (pv 0) pe_int (fun _ _ => rfl)) pa_nil)) pe_str) (pe_cc C__write_integer hr (by decide) (by rfl) (pa_cons (pe_ix (k_ixT (K := K) rfl) (pv 0) pe_int (fun _ _ => rfl)) pa_nil)))))), ?_⟩
  refine w_start (σ := [some _]) rfl ?_
  unfold fracL at q
  walk_at "go"
  refine ite_d (fun h0 => ?_) (fun h0 => ?_)
  · rw [if_pos h0] at q
    walk_at "go"
    exact ⟨n, rfl, nb, q⟩
  · rw [if_neg h0] at q
    walk_at "go"
    refine ⟨n, rfl, nb, ?_⟩
    walk_at "go"
    refine ⟨d, rfl, db, ?_⟩
    walk_at "go"
    rw [lit_slash, S_cat, S_cat, List.append_assoc]
    exact q
abbrev s__is_plain : Stmt := topS 21
theorem sc__is_plain : FnScope ["word", "sign"] ["word"] (defScope s__is_plain) := ⟨rfl, rfl, rfl, by decide +kernel, rfl, by decide +kernel, by decide +kernel⟩
def sp__is_plain : Sp := fun vs H Q _ => ∃ l : List Nat, vs = [.str (S l)] ∧ l.length ≤ 1000 ∧ Q (.bl (plainB l)) H
theorem plain_false {l : List Nat} {i c : Nat} (h : l[i]? = some c) (n : digB c = false) : plainB l = false := by
  unfold plainB
  rw [Bool.and_eq_false_iff]
  left
  rw [List.all_eq_false]
  exact ⟨c, List.mem_of_getElem? h, by rw [n]; decide⟩
theorem c__is_plain {t_DIGITS : Tok} (G__DIGITS : mg "_DIGITS" = some (.str "0123456789" t_DIGITS)) {f : Addr} {fd : FuncData} (F : DefF K mg "_is_plain" s__is_plain ["word"] f fd) : Cal P w K mg base 1 "_is_plain" sp__is_plain := by
  refine cal_of F sc__is_plain (fun vs H Q E h => by obtain ⟨_, rfl, _⟩ := h; rfl) (fun cdv A outer s H vs Q E hr h => ?_)
  obtain ⟨l, rfl, ll, q⟩ := h
  refine ⟨_, (pss_cons (ps_for PassesOwn.never rfl (pi_str (pv 0)) (pg_name (i := 1) sc__is_plain.nd rfl (Or.inl rfl)) (pss_one (ps_if (pt_cmpR op_notInS (pv 1) (pe_glob (v := .str "0123456789") (by rfl) G__DIGITS ⟨_, rfl⟩) (by rfl)) (pss_one (ps_ret pe_bl)) pss_nil)))
 (pss_one (ps_ret (pe_or (pe_cmpR op_eq (pv 0) pe_str (nomark _)) (pe_one (pe_and (pe_cmpR op_ne (pv 0) pe_str (nomark _)) (pe_one (pe_cmpR op_ne (pe_ix ix_str (pv 0) pe_int (fun _ _ => rfl)) pe_str (nomark _))))))))), ?_⟩
  refine w_start (σ := [some _, none]) rfl ?_
  walk_at "go"
  refine for_S (l := l) (fun i σ H' => H' = H ∧ (∀ j c, j < i → l[j]? = some c → digB c = true) ∧ ∃ z, σ = [some (.str (S l)), z]) ⟨rfl, fun j c hj => by omega, none, rfl⟩ ?_ ?_
  · rintro i c σ H' hc ⟨rfl, hd, z, rfl⟩
    walk_at "go"
    rw [lit_digits, in_digits]
    refine ite_b (fun h => ?_) (fun h => ?_)
    · walk_at "go"
      rw [plain_false hc (by simpa using h)] at q
      exact q
    · walk_at "go"
      refine ⟨rfl, fun j d hj hd' => ?_, _, rfl⟩
      by_cases e : j = i
      · subst e
        rw [hc] at hd'
        cases hd'
        simpa using h
      · exact hd j d (by omega) hd'
  · rintro σ H' ⟨rfl, hd, z, rfl⟩
    have al : l.all digB = true := by
      rw [List.all_eq_true]
      intro c hc
      obtain ⟨j, hj⟩ := List.getElem?_of_mem hc
      exact hd j c (List.getElem?_eq_some_iff.mp hj).1 hj
    unfold plainB at q
    rw [al, Bool.true_and] at q
    walk_at "go"
    rw [lit_zero, S_eq]
    refine ite_d (fun h => ?_) (fun h => ?_)
    · rw [decide_eq_true h] at q
      exact q
    · rw [decide_eq_false h, Bool.false_or] at q
      walk_at "go"
      rw [lit_empty, S_eq]
      cases l with
      | nil =>
        exact q
      | cons c r =>
        rw [decide_eq_false (by simp)]
        refine ite_t ?_
        walk_at "go"
        refine w_ixS (sz_le (by rw [S_len]; omega)) (show atI (c :: r) ((0 : Nat) : Int) = some c from atI_nat rfl) ?_
        walk_at "go"
        rw [show (⟨#[c]⟩ : Str) = S [c] from rfl, S_eq, show decide ([c] = [48]) = decide (c = 48) by simp]
        exact q
end
end My
namespace My
open PySem PySem.Spec PyProof.Rows L2
open SX (S S_cat S_len S_tl S_inj)
open TL (numL tl)
open PySem.NumText (AllDigits digitsVal)
section
variable {P : Program} {w : World} {K : PySem.W.Frag} {mg : Str → Option Value} {base : Heap}
theorem cast_div (x p : Nat) : (x : Int) / (10 : Int) ^ p = ((x / 10 ^ p : Nat) : Int) := by
  rw [Int.natCast_ediv, Int.natCast_pow]
  rfl
theorem cast_mod (x p : Nat) : (x : Int) % (10 : Int) ^ p = ((x % 10 ^ p : Nat) : Int) := by
  rw [Int.natCast_emod, Int.natCast_pow]
  rfl
abbrev s_decimal : Stmt := topS 17
theorem sc_decimal : FnScope ["a", "places", "scale", "many", "sign", "whole", "rest", "text"] ["a", "places"] (defScope s_decimal) := ⟨rfl, rfl, rfl, by decide +kernel, rfl, by decide +kernel, by decide +kernel⟩
def sp_decimal (K : PySem.W.Frag) : Sp := fun vs H Q _ => ∃ (a : Addr) (n d z : Int) (p : Nat), vs = [.ref a, .int z] ∧ z = (p : Int) ∧ p ≤ 61 ∧ Fr K H a n d ∧ 0 < d ∧ n.natAbs < 2 ^ 300 ∧ d.natAbs < 2 ^ 300 ∧ ∀ H', Ch [] H H' → Q (.str (S (decL n d p))) H'
theorem c_decimal (T : Txt mg) (z_str : mg "str" = none) (z_divmod : mg "divmod" = none) (C_whole_power : Cal P w K mg base 1 "whole_power" sp_whole_power) (C__digits : Cal P w K mg base 2 "_digits" sp__digits) {f : Addr} {fd : FuncData} (F : DefF K mg "decimal" s_decimal ["a", "places"] f fd) : Cal P w K mg base 3 "decimal" (sp_decimal K) := by
  refine cal_of F sc_decimal (fun vs H Q E h => by obtain ⟨_, _, _, _, _, rfl, _⟩ := h; rfl) (fun cdv A outer s H vs Q E hr h => ?_)
  obtain ⟨a, n, d, _, p, rfl, rfl, hp, fa, d0, bn, bd, q⟩ := h
  refine ⟨_, (pss_cons (ps_set (i := 2) sc_decimal.nd rfl (Or.inl rfl) (pe_cc C_whole_power hr (by decide) (by rfl) (pa_cons pe_int (pa_cons (pv 1) pa_nil))))
 (pss_cons (ps_set (i := 3) sc_decimal.nd rfl (Or.inl rfl) (pe_op op_fdivG (pe_op op_mulG (pe_ix (k_ixT (K := K) rfl) (pv 0) pe_int (fun _ _ => rfl)) (pv 2)) (pe_ix (k_ixT (K := K) rfl) (pv 0) pe_int (fun _ _ => rfl))))
 (pss_cons (ps_set (i := 4) sc_decimal.nd rfl (Or.inl rfl) (pe_ifExp (pt_cmpR op_lt (pv 3) pe_int (nomark _)) pe_str pe_str))
 (pss_cons (ps_asg (pe_callB cb_dm (by rfl) z_divmod (by decide +kernel) (pa_cons (pe_callB cb_abs (by rfl) T.z_abs (by decide +kernel) (pa_cons (pv 3) pa_nil)) (pa_cons (pv 2) pa_nil))) (k_gtup (K := K) rfl rfl (pgs_cons (pg_name (i := 5) sc_decimal.nd rfl (Or.inl rfl)) (pgs_cons (pg_name (i := 6) sc_decimal.nd rfl (Or.inl rfl)) pgs_nil))))
 (pss_cons (ps_set (i := 7) sc_decimal.nd rfl (Or.inl rfl) (pe_op op_addS (pv 4) (pe_cc C__digits hr (by decide) (by rfl) (pa_cons (pv 5) pa_nil))))
 (pss_cons (ps_if (pt_cmpR op_eq (pv 1) pe_int (nomark _)) (pss_one (ps_ret (pv 7))) pss_nil)
 (pss_one (ps_ret (pe_op op_addS (pe_op op_addS (pv 7) pe_str) (pe_bm PySem.F.plainAttrs_str PySem.F.slot_str_zfill PySem.F.type_str_zfill mt_zfillS (pe_callTy cb_strI (by rfl) z_str (by decide +kernel) (pa_cons (pv 6) pa_nil)) (pa_cons (pv 1) pa_nil))))))))))), ?_⟩
  refine w_start (σ := [some _, some _, none, none, none, none, none, none]) rfl ?_
  have bp : ((10 : Int) ^ p).natAbs < 2 ^ (4 * p + 1) := abs_pow_lt (a := 10) (b := 4) (s := p) (by decide)
  have lm := many_bd (n := n) (p := p) d0 bn (by omega)
  have lw : (many n d p).natAbs / 10 ^ p < 10 ^ 170 := Nat.lt_of_le_of_lt (Nat.div_le_self _ _) lm
  walk_at "go"
  refine ⟨10, p, 4, rfl, by decide, by omega, by omega, ?_⟩
  walk_at "go"
  refine w_I (mul_ok bn bp (by omega)) ?_
  walk_at "go"
  refine w_I (div_ok (by omega) bd (by decide)) ?_
  rw [show (n * 10 ^ p).fdiv d = many n d p from rfl]
  walk_at "go"
  refine ite_d (fun h => ?_) (fun h => ?_)
  · walk_at "go"
    refine w_dm (Int.pow_pos (by decide)) (abs_mono bp (by omega)) fun t H1 n1 c1 h1 => ?_
    rw [cast_div, cast_mod] at h1
    refine w_gtup (.of h1) rfl ?_
    walk_at "go"
    refine ⟨_, rfl, Int.natCast_nonneg _, ?_, ?_⟩
    · rw [Int.natAbs_natCast]
      exact Nat.lt_of_lt_of_le lw (by decide +kernel)
    rw [Int.natAbs_natCast]
    have l1 := numL_len_pow (n := (many n d p).natAbs / 10 ^ p) (k := 170) (by decide) lw
    walk_at "go"
    rw [lit_minus, S_cat]
    refine ite_d (fun h0 => ?_) (fun h0 => ?_)
    · have e0 : p = 0 := by omega
      subst e0
      have q := q H1 c1
      unfold decL at q
      rw [if_pos h, if_pos rfl, List.append_nil] at q
      walk_at "go"
      exact q
    · have h0 : p ≠ 0 := by omega
      have q := q H1 c1
      unfold decL at q
      rw [if_pos h, if_neg h0] at q
      have lr := Nat.mod_lt (many n d p).natAbs (Nat.pow_pos (n := p) (show 0 < 10 by decide))
      have l2 := zf_len lr (by omega)
      walk_at "go"
      rw [lit_dot]
      walk_at "go"
      refine w_strI (by rw [Int.natAbs_natCast]; exact Nat.lt_of_lt_of_le lr (Nat.le_trans (Nat.pow_le_pow_right (by decide) hp) (by decide +kernel))) ?_
      walk_at "go"
      refine w_zfill ?_ ?_
      · have : (p : Int) ∈ (List.range 62).map fun k => ((k : Nat) : Int) := List.mem_map.mpr ⟨p, List.mem_range.mpr (by omega), rfl⟩
        exact (show ∀ i ∈ (List.range 62).map (fun k => ((k : Nat) : Int)), PadOk i = true by decide +kernel) _ this
      rw [intL_pos (by omega), Int.natAbs_natCast, zfill_S (TL.numL_digits _), show (List.replicate (p - (numL ((many n d p).natAbs % 10 ^ p)).length) 48 ++ numL ((many n d p).natAbs % 10 ^ p)) = zf p ((many n d p).natAbs % 10 ^ p) from rfl]
      walk_at "go"
      rw [S_cat, S_cat]
      rw [List.append_assoc, List.append_assoc]
      exact q
  · walk_at "go"
    refine w_dm (Int.pow_pos (by decide)) (abs_mono bp (by omega)) fun t H1 n1 c1 h1 => ?_
    rw [cast_div, cast_mod] at h1
    refine w_gtup (.of h1) rfl ?_
    walk_at "go"
    refine ⟨_, rfl, Int.natCast_nonneg _, ?_, ?_⟩
    · rw [Int.natAbs_natCast]
      exact Nat.lt_of_lt_of_le lw (by decide +kernel)
    rw [Int.natAbs_natCast]
    have l1 := numL_len_pow (n := (many n d p).natAbs / 10 ^ p) (k := 170) (by decide) lw
    walk_at "go"
    rw [lit_empty, S_cat]
    refine ite_d (fun h0 => ?_) (fun h0 => ?_)
    · have e0 : p = 0 := by omega
      subst e0
      have q := q H1 c1
      unfold decL at q
      rw [if_neg h, if_pos rfl, List.append_nil] at q
      walk_at "go"
      exact q
    · have h0 : p ≠ 0 := by omega
      have q := q H1 c1
      unfold decL at q
      rw [if_neg h, if_neg h0] at q
      have lr := Nat.mod_lt (many n d p).natAbs (Nat.pow_pos (n := p) (show 0 < 10 by decide))
      have l2 := zf_len lr (by omega)
      walk_at "go"
      rw [lit_dot]
      walk_at "go"
      refine w_strI (by rw [Int.natAbs_natCast]; exact Nat.lt_of_lt_of_le lr (Nat.le_trans (Nat.pow_le_pow_right (by decide) hp) (by decide +kernel))) ?_
      walk_at "go"
      refine w_zfill ?_ ?_
      · have : (p : Int) ∈ (List.range 62).map fun k => ((k : Nat) : Int) := List.mem_map.mpr ⟨p, List.mem_range.mpr (by omega), rfl⟩
        exact (show ∀ i ∈ (List.range 62).map (fun k => ((k : Nat) : Int)), PadOk i = true by decide +kernel) _ this
      rw [intL_pos (by omega), Int.natAbs_natCast, zfill_S (TL.numL_digits _), show (List.replicate (p - (numL ((many n d p).natAbs % 10 ^ p)).length) 48 ++ numL ((many n d p).natAbs % 10 ^ p)) = zf p ((many n d p).natAbs % 10 ^ p) from rfl]
      walk_at "go"
      rw [S_cat, S_cat]
      rw [List.append_assoc, List.append_assoc]
      exact q
end
end My
namespace My
open PySem PySem.Spec PyProof.Rows L2
open SX (S S_cat S_len S_tl S_inj)
open TL (numL tl)
open PySem.NumText (AllDigits digitsVal)
/-! ### the text, cut -/
def slL (l : List Nat) : List Nat := match (cut l).2 with | none => [] | some _ => [47]
def btL (l : List Nat) : List Nat := match (cut l).2 with | none => [] | some q => q
theorem part_cut (l : List Nat) : Txt.partition (S l) (S [47]) = (S (cut l).1, S (slL l), S (btL l)) := by
  unfold slL btL
  cases e : (cut l).2 with
  | none =>
    obtain ⟨e1, n⟩ := cut_none e
    rw [e1]
    exact SX.partition_none (by simp) (SX.par_head_none n)
  | some q =>
    obtain ⟨e1, n⟩ := cut_some e
    refine SX.partition_some (by simp) ?_
    have := SX.par_head (c := 47) (sep := []) q n
    rw [show (cut l).1 ++ ([47] ++ q) = l from e1.symm] at this
    exact this
theorem cut_rest (l : List Nat) : (cut l).1 = (if negB l = true then [45] else []) ++ (cut (rest l)).1 ∧ (cut l).2 = (cut (rest l)).2 := by
  have e := rest_eq l
  by_cases h : negB l = true
  · rw [if_pos h] at e ⊢
    have : cut (45 :: rest l) = (45 :: (cut (rest l)).1, (cut (rest l)).2) := by
      show (if (45 : Nat) = 47 then _ else _) = _
      rw [if_neg (by decide)]
    have e2 : cut l = (45 :: (cut (rest l)).1, (cut (rest l)).2) := by
      conv => lhs; rw [e]
      exact this
    rw [e2]
    exact ⟨rfl, rfl⟩
  · rw [if_neg h] at e ⊢
    rw [List.nil_append] at e ⊢
    rw [← e]
    exact ⟨rfl, rfl⟩
theorem cut_len (l : List Nat) : (cut l).1.length ≤ l.length ∧ (slL l).length ≤ 1 ∧ (btL l).length ≤ l.length := by
  unfold slL btL
  cases e : (cut l).2 with
  | none =>
    obtain ⟨e1, n⟩ := cut_none e
    rw [e1]
    simp
  | some q =>
    obtain ⟨e1, n⟩ := cut_some e
    have := congrArg List.length e1
    rw [List.length_append, List.length_cons] at this
    refine ⟨by omega, by simp, by show q.length ≤ _; omega⟩
theorem rest_len (l : List Nat) : (rest l).length ≤ l.length := by
  have := congrArg List.length (rest_eq l)
  rw [List.length_append] at this
  omega
theorem rd_eq (l : List Nat) : rd l = if plainB (cut (rest l)).1 = true ∧ ¬ (negB l = true ∧ (cut (rest l)).1 = [48]) then
    (match (cut (rest l)).2 with
    | none => some (sg (negB l) (dv (cut (rest l)).1), 1)
    | some q => if plainB q = true ∧ 2 ≤ dv q ∧ Nat.gcd (dv (cut (rest l)).1) (dv q) = 1 then some (sg (negB l) (dv (cut (rest l)).1), (dv q : Int)) else none) else none := rfl
theorem sg_abs (b : Bool) (n : Nat) : (sg b n).natAbs = n := by
  unfold sg
  split <;> omega
theorem dv_bd {p : List Nat} (h : AllDigits p) (hl : p.length ≤ 600) : dv p < 2 ^ 1998 := Nat.lt_of_lt_of_le (dv_lt h) (Nat.le_trans (Nat.pow_le_pow_right (by decide) hl) (by decide +kernel))
theorem head_rest {l : List Nat} (h : ¬ negB l = true) : (cut l).1.head? ≠ some 45 := by
  intro z
  have : l.head? = some 45 := by
    cases l with
    | nil => cases z
    | cons c r =>
      unfold cut at z
      split at z
      · cases z
      · exact z
  unfold negB at h
  rw [decide_eq_true_eq] at h
  exact h this
section
variable {P : Program} {w : World} {K : PySem.W.Frag} {mg : Str → Option Value} {base : Heap}
abbrev si_InvalidText : Stmt := inClass (topS 5) 0
theorem sci_InvalidText : FnScope ["self", "at"] ["self", "at"] (defScope si_InvalidText) := ⟨rfl, rfl, rfl, by decide +kernel, rfl, by decide +kernel, by decide +kernel⟩
theorem ci_InvalidText {C fI : Addr} {fd : FuncData} (T : OexC K C) (n_at : PySem.W.findIn K (.ref C) "at" = some none) (F : Fun K "__init__" "InvalidText.__init__" si_InvalidText fI fd) : FnOk P w K mg base (L2.CX P w) 1 fI fd ["self", "at"] (sp_init1 K C "at") := by
  refine F.okX sci_InvalidText (fun vs H Q E h => by obtain ⟨_, _, rfl, _⟩ := h; rfl) (fun cdv A outer s H vs Q E hr h => ?_)
  obtain ⟨a, v_at, rfl, ea, qq⟩ := h
  exact ⟨_, (pss_one (ps_ost (pv 0) (pv 1))), init1_pure T n_at ea qq⟩
abbrev s_read_fraction : Stmt := topS 22
theorem sc_read_fraction : FnScope ["text", "top", "slash", "bottom", "negative", "size", "n", "d"] ["text"] (defScope s_read_fraction) := ⟨rfl, rfl, rfl, by decide +kernel, rfl, by decide +kernel, by decide +kernel⟩
def sp_read_fraction (K : PySem.W.Frag) (C : Addr) : Sp := fun vs H Q E => ∃ l : List Nat, vs = [.str (S l)] ∧ l.length ≤ 600 ∧ (rd l = none → ∀ (dd : Addr) H', Ch [] H H' → H' dd = some (.xd [("at", .int 0)]) → E (.ref C) (some dd) H') ∧
  (∀ n d, rd l = some (n, d) → ∀ (t : Addr) H', Ch [] H H' → Fr K H' t n d → Q (.ref t) H')
theorem c_read_fraction {A_InvalidText : Addr} (T : Txt mg) (m_gcd : mg "gcd" = some (.builtin "math.gcd")) (O_InvalidText : OexD P w K mg base 1 "InvalidText" A_InvalidText (sp_init1 K A_InvalidText "at")) (C__is_plain : Cal P w K mg base 1 "_is_plain" sp__is_plain)
    {f : Addr} {fd : FuncData} (F : DefF K mg "read_fraction" s_read_fraction ["text"] f fd) : CalN P w K mg base 3 "read_fraction" (sp_read_fraction K A_InvalidText) := by
  refine cal_ofN F sc_read_fraction (fun vs H Q E h => by obtain ⟨_, rfl, _⟩ := h; rfl) (fun cdv A outer s H vs Q E hr h => ?_)
  obtain ⟨l, rfl, ll, qE, q⟩ := h
  refine ⟨_, (pss_cons (ps_asg (pe_bm PySem.F.plainAttrs_str PySem.F.slot_str_partition PySem.F.type_str_partition mt_partS (pv 0) (pa_cons pe_str pa_nil)) (k_gtup (K := K) rfl rfl (pgs_cons (pg_name (i := 1) sc_read_fraction.nd rfl (Or.inl rfl)) (pgs_cons (pg_name (i := 2) sc_read_fraction.nd rfl (Or.inl rfl)) (pgs_cons (pg_name (i := 3) sc_read_fraction.nd rfl (Or.inl rfl)) pgs_nil)))))
 (pss_cons (ps_set (i := 4) sc_read_fraction.nd rfl (Or.inl rfl) (pe_bm PySem.F.plainAttrs_str PySem.F.slot_str_startswith PySem.F.type_str_startswith mt_startsS (pv 1) (pa_cons pe_str pa_nil)))
 (pss_cons (ps_set (i := 5) sc_read_fraction.nd rfl (Or.inl rfl) (pe_ifExp (pt_val (pv 4)) (pe_slice sl_str (pv 1) (po_some pe_int) po_none) (pv 1)))
 (pss_cons (ps_if (PW.pt (pw_or (pt_not (pt_val (pe_cc C__is_plain hr (by decide) (by rfl) (pa_cons (pv 5) pa_nil)))) (pw_or1 (PW.pt (pw_and (pt_val (pv 4)) (pw_and1 (pt_cmpR op_eq (pv 5) pe_str (nomark _)))))))) (pss_one (L2N.ps_raise rfl (L2N.takes_of rfl rfl rfl rfl) (pmk_ox O_InvalidText hr (by decide) (by rfl) (pa_cons pe_int pa_nil)))) pss_nil)
 (pss_cons (ps_set (i := 6) sc_read_fraction.nd rfl (Or.inl rfl) (pe_ifExp (pt_val (pv 4)) (pe_un un_neg (pe_callTy cb_intS (by rfl) T.z_int (by decide +kernel) (pa_cons (pv 5) pa_nil))) (pe_callTy cb_intS (by rfl) T.z_int (by decide +kernel) (pa_cons (pv 5) pa_nil))))
 (pss_cons (ps_if (pt_cmpR op_eq (pv 2) pe_str (nomark _)) (pss_one (ps_ret (pe_tup (pa_cons (pv 6) (pa_cons pe_int pa_nil))))) pss_nil)
 (pss_cons (ps_if (pt_not (pt_val (pe_cc C__is_plain hr (by decide) (by rfl) (pa_cons (pv 3) pa_nil)))) (pss_one (L2N.ps_raise rfl (L2N.takes_of rfl rfl rfl rfl) (pmk_ox O_InvalidText hr (by decide) (by rfl) (pa_cons pe_int pa_nil)))) pss_nil)
 (pss_cons (ps_set (i := 7) sc_read_fraction.nd rfl (Or.inl rfl) (pe_callTy cb_intS (by rfl) T.z_int (by decide +kernel) (pa_cons (pv 3) pa_nil)))
 (pss_cons (ps_if (PW.pt (pw_or (pt_cmpR op_lt (pv 7) pe_int (nomark _)) (pw_or1 (pt_cmpR op_ne (pe_callBfun cr_gcd (by rfl) m_gcd (pa_cons (pv 6) (pa_cons (pv 7) pa_nil))) pe_int (nomark _))))) (pss_one (L2N.ps_raise rfl (L2N.takes_of rfl rfl rfl rfl) (pmk_ox O_InvalidText hr (by decide) (by rfl) (pa_cons pe_int pa_nil)))) pss_nil)
 (PSs.nox (pss_one (ps_ret (pe_tup (pa_cons (pv 6) (pa_cons (pv 7) pa_nil))))))))))))))), ?_⟩
  refine w_start (σ := [some _, none, none, none, none, none, none, none]) rfl ?_
  obtain ⟨p, ep⟩ : ∃ p, p = (cut (rest l)).1 := ⟨_, rfl⟩
  have ecut := cut_rest l
  have lc := cut_len l
  have lp : p.length ≤ 600 := by
    have := cut_len (rest l)
    have := rest_len l
    rw [ep]
    omega
  walk_at "go"
  rw [lit_slash]
  refine w_partS (show (1 == 0) = false from rfl) (sz_le (by rw [S_len]; omega)) fun t0 H1 n1 c1 h1 => ?_
  rw [part_cut] at h1
  have h1 : H1 t0 = some (.tup [.str (S (cut l).1), .str (S (slL l)), .str (S (btL l))]) := h1
  refine w_gtup (.of h1) rfl ?_
  walk_at "go"
  rw [lit_minus, starts_S]
  cases nb : negB l with
  | true =>
    have e1 : (cut l).1 = 45 :: p := by rw [ecut.1, nb, ep]; rfl
    rw [e1, show decide ((45 :: p).head? = some 45) = true from decide_eq_true rfl]
    refine ite_t ?_
    walk_at "go"
    rw [cut_from (by decide)]
    rw [show (45 :: p).drop (Int.toNat 1) = p from rfl]
    refine ⟨p, rfl, by omega, ?_⟩
    walk_at "go"
    cases kp : plainB p with
    | false =>
      refine ite_t ?_
      refine ite_t ?_
      refine w_mkO ?_
      walk_at "go"
      refine mk1_at fun dd Hx cx hx => ?_
      refine qE ?_ dd Hx (c1.trans cx) hx
      rw [rd_eq, ← ep]
      exact if_neg (fun z => by rw [kp] at z; exact absurd z.1 (by decide))
    | true =>
      have hpl := plainB_iff.mp kp
      refine ite_f ?_
      walk_at "go"
      refine ite_t ?_
      walk_at "go"
      rw [lit_zero, S_eq]
      refine ite_d (fun k0 => ?_) (fun k0 => ?_)
      · refine w_mkO ?_
        walk_at "go"
        refine mk1_at fun dd Hx cx hx => ?_
        refine qE ?_ dd Hx (c1.trans cx) hx
        rw [rd_eq, ← ep]
        exact if_neg (fun z => z.2 ⟨nb, k0⟩)
      have ok : plainB (cut (rest l)).1 = true ∧ ¬ (negB l = true ∧ (cut (rest l)).1 = [48]) := ⟨by rw [← ep]; exact kp, fun z => k0 (by rw [ep]; exact z.2)⟩
      walk_at "go"
      refine ite_t ?_
      walk_at "go"
      refine w_intD hpl.1 hpl.ne (by omega) ?_
      walk_at "go"
      rw [show -((dv p : Nat) : Int) = sg true (dv p) from rfl]
      rw [show sg true (dv p) = sg (negB l) (dv p) by rw [nb]]
      cases e2 : (cut (rest l)).2 with
      | none =>
        have es : slL l = [] := by unfold slL; rw [ecut.2, e2]
        rw [es]
        walk_at "go"
        rw [lit_empty]
        rw [decide_eq_true rfl]
        refine ite_t ?_
        walk_at "go"
        refine w_newT (show 2 ≤ sizeLine by decide) fun t H2 n2 c2 h2 => ?_
        refine q _ _ ?_ t H2 (c1.trans c2) (.of h2)
        rw [rd_eq, e2, if_pos ok, ← ep]
      | some b =>
        have es : slL l = [47] := by unfold slL; rw [ecut.2, e2]
        have eb : btL l = b := by unfold btL; rw [ecut.2, e2]
        have lb : b.length ≤ 600 := by have := (cut_len l).2.2; rw [eb] at this; omega
        rw [es, eb]
        walk_at "go"
        rw [lit_empty, S_eq, decide_eq_false (by simp)]
        refine ite_f ?_
        walk_at "go"
        refine ⟨b, rfl, by omega, ?_⟩
        walk_at "go"
        cases kb : plainB b with
        | false =>
          refine ite_t ?_
          refine w_mkO ?_
          walk_at "go"
          refine mk1_at fun dd Hx cx hx => ?_
          refine qE ?_ dd Hx (c1.trans cx) hx
          rw [rd_eq, e2, if_pos ok, ← ep]
          exact if_neg (fun z => by rw [kb] at z; exact absurd z.1 (by decide))
        | true =>
          have hb := plainB_iff.mp kb
          refine ite_f ?_
          walk_at "go"
          refine w_intD hb.1 hb.ne (by omega) ?_
          walk_at "go"
          refine ite_d (fun k2 => ?_) (fun k2 => ?_)
          · refine ite_t ?_
            refine w_mkO ?_
            walk_at "go"
            refine mk1_at fun dd Hx cx hx => ?_
            refine qE ?_ dd Hx (c1.trans cx) hx
            rw [rd_eq, e2, if_pos ok, ← ep]
            exact if_neg (fun z => by omega)
          · walk_at "go"
            rw [sg_abs, Int.natAbs_natCast]
            refine ite_nd (fun k3 => ?_) (fun k3 => ?_)
            · refine w_mkO ?_
              walk_at "go"
              refine mk1_at fun dd Hx cx hx => ?_
              refine qE ?_ dd Hx (c1.trans cx) hx
              rw [rd_eq, e2, if_pos ok, ← ep]
              exact if_neg (fun z => k3 (by rw [z.2.2]; rfl))
            · walk_at "go"
              refine w_newT (show 2 ≤ sizeLine by decide) fun t H2 n2 c2 h2 => ?_
              refine q _ _ ?_ t H2 (c1.trans c2) (.of h2)
              rw [rd_eq, e2, if_pos ok, ← ep]
              exact if_pos ⟨kb, by omega, by omega⟩
  | false =>
    have e1 : (cut l).1 = p := by rw [ecut.1, nb, ep]; rfl
    have hr := head_rest (l := l) (by rw [nb]; decide)
    rw [e1] at hr
    rw [e1, show decide (p.head? = some 45) = false from decide_eq_false hr]
    refine ite_f ?_
    walk_at "go"
    refine ⟨p, rfl, by omega, ?_⟩
    walk_at "go"
    cases kp : plainB p with
    | false =>
      refine ite_t ?_
      refine ite_t ?_
      refine w_mkO ?_
      walk_at "go"
      refine mk1_at fun dd Hx cx hx => ?_
      refine qE ?_ dd Hx (c1.trans cx) hx
      rw [rd_eq, ← ep]
      exact if_neg (fun z => by rw [kp] at z; exact absurd z.1 (by decide))
    | true =>
      have hpl := plainB_iff.mp kp
      refine ite_f ?_
      walk_at "go"
      refine ite_f ?_
      have ok : plainB (cut (rest l)).1 = true ∧ ¬ (negB l = true ∧ (cut (rest l)).1 = [48]) := ⟨by rw [← ep]; exact kp, fun z => by rw [nb] at z; exact absurd z.1 (by decide)⟩
      walk_at "go"
      refine ite_f ?_
      walk_at "go"
      refine ite_f ?_
      walk_at "go"
      refine w_intD hpl.1 hpl.ne (by omega) ?_
      walk_at "go"
      rw [show ((dv p : Nat) : Int) = sg false (dv p) from rfl]
      rw [show sg false (dv p) = sg (negB l) (dv p) by rw [nb]]
      cases e2 : (cut (rest l)).2 with
      | none =>
        have es : slL l = [] := by unfold slL; rw [ecut.2, e2]
        rw [es]
        walk_at "go"
        rw [lit_empty]
        rw [decide_eq_true rfl]
        refine ite_t ?_
        walk_at "go"
        refine w_newT (show 2 ≤ sizeLine by decide) fun t H2 n2 c2 h2 => ?_
        refine q _ _ ?_ t H2 (c1.trans c2) (.of h2)
        rw [rd_eq, e2, if_pos ok, ← ep]
      | some b =>
        have es : slL l = [47] := by unfold slL; rw [ecut.2, e2]
        have eb : btL l = b := by unfold btL; rw [ecut.2, e2]
        have lb : b.length ≤ 600 := by have := (cut_len l).2.2; rw [eb] at this; omega
        rw [es, eb]
        walk_at "go"
        rw [lit_empty, S_eq, decide_eq_false (by simp)]
        refine ite_f ?_
        walk_at "go"
        refine ⟨b, rfl, by omega, ?_⟩
        walk_at "go"
        cases kb : plainB b with
        | false =>
          refine ite_t ?_
          refine w_mkO ?_
          walk_at "go"
          refine mk1_at fun dd Hx cx hx => ?_
          refine qE ?_ dd Hx (c1.trans cx) hx
          rw [rd_eq, e2, if_pos ok, ← ep]
          exact if_neg (fun z => by rw [kb] at z; exact absurd z.1 (by decide))
        | true =>
          have hb := plainB_iff.mp kb
          refine ite_f ?_
          walk_at "go"
          refine w_intD hb.1 hb.ne (by omega) ?_
          walk_at "go"
          refine ite_d (fun k2 => ?_) (fun k2 => ?_)
          · refine ite_t ?_
            refine w_mkO ?_
            walk_at "go"
            refine mk1_at fun dd Hx cx hx => ?_
            refine qE ?_ dd Hx (c1.trans cx) hx
            rw [rd_eq, e2, if_pos ok, ← ep]
            exact if_neg (fun z => by omega)
          · walk_at "go"
            rw [sg_abs, Int.natAbs_natCast]
            refine ite_nd (fun k3 => ?_) (fun k3 => ?_)
            · refine w_mkO ?_
              walk_at "go"
              refine mk1_at fun dd Hx cx hx => ?_
              refine qE ?_ dd Hx (c1.trans cx) hx
              rw [rd_eq, e2, if_pos ok, ← ep]
              exact if_neg (fun z => k3 (by rw [z.2.2]; rfl))
            · walk_at "go"
              refine w_newT (show 2 ≤ sizeLine by decide) fun t H2 n2 c2 h2 => ?_
              refine q _ _ ?_ t H2 (c1.trans c2) (.of h2)
              rw [rd_eq, e2, if_pos ok, ← ep]
              exact if_pos ⟨kb, by omega, by omega⟩
end
end My
namespace My
open PySem PySem.Spec PyProof.Rows L2
open SX (S S_cat S_len S_tl S_inj)
open TL (numL tl)
open PySem.NumText (AllDigits digitsVal)
/-- for x in a list -/
theorem for_Lx {K : PySem.W.Frag} {σ : L2.St} {H : Hp} {N : L2.St → Hp → Prop} {R : VK} {g : TG} {tb : TS} {a : Addr} {xs : List V} (Pv : Nat → L2.St → Hp → Prop) (h0 : Pv 0 σ H) (hl : ∀ i σ H, Pv i σ H → SqL K H a xs)
    (hs : ∀ i x σ H, xs[i]? = some x → Pv i σ H → g x σ H fun σ2 H2 => tb ⟨Pv (i + 1), R, N, Pv (i + 1)⟩ σ2 H2) (hd : ∀ σ H, Pv xs.length σ H → N σ H) : ForG (Itl K a) g tb N R σ H :=
  for_w (walk_list (K := K) (a := a) (xs := xs)) Pv h0 (fun i σ H _ hp => hl i σ H hp) (fun i x σ H H' hi hp y => by
    obtain ⟨e, hx⟩ := y
    rw [e]
    exact hs i x σ H hx hp) hd
/-- the halves -/
theorem split_none {r : List Nat} (h : (cut r).2 = none) : Txt.split (S r) (S [47]) = [r].map S := by
  obtain ⟨_, n⟩ := cut_none h
  rw [SX.split_S (by simp) (by decide), TL.spl_last1 n]
  rfl
theorem spl_some {r q : List Nat} (h : (cut r).2 = some q) : TL.spl [47] 0 [] r = (cut r).1 :: TL.spl [47] 0 [] q := by
  obtain ⟨e, n⟩ := cut_some h
  have := TL.spl_part1 (s := 47) (S := []) (p := (cut r).1) (rest := q) (acc := []) n
  rw [show (cut r).1 ++ ([47] ++ q) = r from e.symm] at this
  exact this
theorem split_two {r q : List Nat} (h : (cut r).2 = some q) (h2 : (cut q).2 = none) : Txt.split (S r) (S [47]) = [(cut r).1, q].map S := by
  obtain ⟨_, n⟩ := cut_none h2
  rw [SX.split_S (by simp) (by decide), spl_some h, TL.spl_last1 n]
  rfl
theorem split_more {r q q2 : List Nat} (h : (cut r).2 = some q) (h2 : (cut q).2 = some q2) : ∃ hs : List (List Nat), Txt.split (S r) (S [47]) = hs.map S ∧ 2 < hs.length := by
  refine ⟨_, SX.split_S (by simp) (by decide), ?_⟩
  rw [spl_some h, spl_some h2]
  have : TL.spl [47] 0 [] q2 ≠ [] := by
    cases h3 : (cut q2).2 with
    | none =>
      obtain ⟨_, n⟩ := cut_none h3
      rw [TL.spl_last1 n]
      simp
    | some q3 =>
      rw [spl_some h3]
      simp
  obtain ⟨x, y, e⟩ := List.exists_cons_of_ne_nil this
  rw [e]
  simp
theorem slash_not_plain {q : List Nat} {q2 : List Nat} (h : (cut q).2 = some q2) : plainB q = false := by
  obtain ⟨e, _⟩ := cut_some h
  cases k : plainB q with
  | false => rfl
  | true =>
    have := (plainB_iff.mp k).1 47 (by rw [e]; simp)
    omega
theorem rd_bd {l : List Nat} {n d : Int} (h : rd l = some (n, d)) (hl : l.length ≤ 560) : n.natAbs < 2 ^ 1900 ∧ d.natAbs < 2 ^ 1900 := by
  have lr := rest_len l
  have lc := cut_len (rest l)
  have big : ∀ p : List Nat, AllDigits p → p.length ≤ 560 → dv p < 2 ^ 1900 := fun p hp lp => Nat.lt_of_lt_of_le (dv_lt hp) (Nat.le_trans (Nat.pow_le_pow_right (by decide) lp) (by decide +kernel))
  rw [rd_eq] at h
  by_cases c : plainB (cut (rest l)).1 = true ∧ ¬ (negB l = true ∧ (cut (rest l)).1 = [48])
  · rw [if_pos c] at h
    have b1 := big _ (plainB_iff.mp c.1).1 (by omega)
    cases e : (cut (rest l)).2 with
    | none =>
      rw [e] at h
      have h := Option.some.inj h
      injection h with h1 h2
      rw [← h1, ← h2, sg_abs]
      exact ⟨b1, by decide +kernel⟩
    | some q =>
      rw [e] at h
      have h : (if plainB q = true ∧ 2 ≤ dv q ∧ Nat.gcd (dv (cut (rest l)).1) (dv q) = 1 then some (sg (negB l) (dv (cut (rest l)).1), (dv q : Int)) else none) = some (n, d) := h
      by_cases k : plainB q = true ∧ 2 ≤ dv q ∧ Nat.gcd (dv (cut (rest l)).1) (dv q) = 1
      · rw [if_pos k] at h
        have h := Option.some.inj h
        injection h with h1 h2
        have lb : (btL (rest l)).length ≤ 560 := by omega
        unfold btL at lb
        rw [e] at lb
        rw [← h1, ← h2, sg_abs, Int.natAbs_natCast]
        exact ⟨b1, big _ (plainB_iff.mp k.1).1 lb⟩
      · rw [if_neg k] at h
        cases h
  · rw [if_neg c] at h
    cases h
section
variable {P : Program} {w : World} {K : PySem.W.Frag} {mg : Str → Option Value} {base : Heap}
abbrev s__law_figures : Stmt := topS 38
theorem sc__law_figures : FnScope ["text", "sign"] ["text"] (defScope s__law_figures) := ⟨rfl, rfl, rfl, by decide +kernel, rfl, by decide +kernel, by decide +kernel⟩
theorem plain_long {c d : Nat} {r : List Nat} (h : c = 48) : plainB (c :: d :: r) = false := by
  subst h
  unfold plainB
  simp
theorem plain_all {c : Nat} {r : List Nat} (h : r = [] ∨ c ≠ 48) (hd : ∀ (j e : Nat), (c :: r)[j]? = some e → digB e = true) : plainB (c :: r) = true := by
  unfold plainB
  rw [Bool.and_eq_true, List.all_eq_true, Bool.or_eq_true, decide_eq_true_eq]
  refine ⟨fun e he => ?_, ?_⟩
  · obtain ⟨j, hj⟩ := List.getElem?_of_mem he
    exact hd j e hj
  · show c :: r = [48] ∨ (!decide (c = 48)) = true
    by_cases z : c = 48
    · rcases h with h | h
      · exact .inl (by rw [h, z])
      · exact absurd z h
    · exact .inr (by rw [decide_eq_false z]; rfl)
def sp__law_figures : Sp := fun vs H Q _ => ∃ l : List Nat, vs = [.str (S l)] ∧ l.length ≤ 1000 ∧ Q (.bl (plainB l)) H
theorem c__law_figures (T : Txt mg) {f : Addr} {fd : FuncData} (F : DefF K mg "_law_figures" s__law_figures ["text"] f fd) : Cal P w K mg base 1 "_law_figures" sp__law_figures := by
  refine cal_of F sc__law_figures (fun vs H Q E h => by obtain ⟨_, rfl, _⟩ := h; rfl) (fun cdv A outer s H vs Q E hr h => ?_)
  obtain ⟨l, rfl, ll, q⟩ := h
  refine ⟨_, (pss_cons (ps_if (PW.pt (pw_or (pt_cmpR op_eq (pv 0) pe_str (nomark _)) (pw_or1 (PW.pt (pw_and (pt_cmpR op_gt (pe_callB cb_lenS (by rfl) T.z_len PySem.boot_len (pa_cons (pv 0) pa_nil)) pe_int (nomark _)) (pw_and1 (pt_cmpR op_eq (pe_ix ix_str (pv 0) pe_int (fun _ _ => rfl)) pe_str (nomark _)))))))) (pss_one (ps_ret pe_bl)) pss_nil)
 (pss_cons (ps_for PassesOwn.never rfl (pi_str (pv 0)) (pg_name (i := 1) sc__law_figures.nd rfl (Or.inl rfl)) (pss_one (ps_if (pt_cmpR op_notInS (pv 1) pe_str (by rfl)) (pss_one (ps_ret pe_bl)) pss_nil)))
 (pss_one (ps_ret pe_bl)))), ?_⟩
  refine w_start (σ := [some _, none]) rfl ?_
  walk_at "go"
  rw [lit_empty, S_eq]
  cases l with
  | nil =>
    rw [decide_eq_true rfl]
    refine ite_t ?_
    refine ite_t ?_
    walk_at "go"
    exact q
  | cons c r =>
    rw [decide_eq_false (by simp)]
    refine ite_f ?_
    walk_at "go"
    refine w_lenS (sz_le (by rw [S_len]; omega)) ?_
    rw [S_len, List.length_cons]
    walk_at "go"
    refine ite_d (fun h0 => ?_) (fun h0 => ?_)
    · walk_at "go"
      refine w_ixS (sz_le (by rw [S_len]; omega)) (show atI (c :: r) ((0 : Nat) : Int) = some c from atI_nat rfl) ?_
      walk_at "go"
      rw [lit_zero, show (⟨#[c]⟩ : Str) = S [c] from rfl, S_eq, show decide ([c] = [48]) = decide (c = 48) by simp]
      refine ite_d (fun h1 => ?_) (fun h1 => ?_)
      · walk_at "go"
        obtain ⟨d, r', e⟩ := List.exists_cons_of_ne_nil (show r ≠ [] from fun e => by rw [e] at h0; simp at h0)
        subst e
        rw [plain_long h1] at q
        exact q
      · walk_at "go"
        refine for_S (l := c :: r) (fun i σ H' => H' = H ∧ (∀ j e, j < i → (c :: r)[j]? = some e → digB e = true) ∧ ∃ z, σ = [some (.str (S (c :: r))), z]) ⟨rfl, fun j e hj => by omega, none, rfl⟩ ?_ ?_
        · rintro i e σ H' hc ⟨rfl, hd, z, rfl⟩
          walk_at "go"
          rw [lit_digits, in_digits]
          refine ite_b (fun h => ?_) (fun h => ?_)
          · walk_at "go"
            rw [plain_false hc (by simpa using h)] at q
            exact q
          · walk_at "go"
            refine ⟨rfl, fun j d hj hd' => ?_, _, rfl⟩
            by_cases e1 : j = i
            · subst e1
              rw [hc] at hd'
              cases hd'
              simpa using h
            · exact hd j d (by omega) hd'
        · rintro σ H' ⟨rfl, hd, z, rfl⟩
          rw [plain_all (.inr h1) fun j e he => hd j e (List.getElem?_eq_some_iff.mp he).1 he] at q
          walk_at "go"
          exact q
    · refine ite_f ?_
      walk_at "go"
      have er : r = [] := List.length_eq_zero_iff.mp (by omega)
      refine for_S (l := c :: r) (fun i σ H' => H' = H ∧ (∀ j e, j < i → (c :: r)[j]? = some e → digB e = true) ∧ ∃ z, σ = [some (.str (S (c :: r))), z]) ⟨rfl, fun j e hj => by omega, none, rfl⟩ ?_ ?_
      · rintro i e σ H' hc ⟨rfl, hd, z, rfl⟩
        walk_at "go"
        rw [lit_digits, in_digits]
        refine ite_b (fun h => ?_) (fun h => ?_)
        · walk_at "go"
          rw [plain_false hc (by simpa using h)] at q
          exact q
        · walk_at "go"
          refine ⟨rfl, fun j d hj hd' => ?_, _, rfl⟩
          by_cases e1 : j = i
          · subst e1
            rw [hc] at hd'
            cases hd'
            simpa using h
          · exact hd j d (by omega) hd'
      · rintro σ H' ⟨rfl, hd, z, rfl⟩
        rw [plain_all (.inl er) fun j e he => hd j e (List.getElem?_eq_some_iff.mp he).1 he] at q
        walk_at "go"
        exact q
abbrev s__law_text : Stmt := topS 41
theorem sc__law_text : FnScope ["a"] ["a"] (defScope s__law_text) := ⟨rfl, rfl, rfl, by decide +kernel, rfl, by decide +kernel, by decide +kernel⟩
theorem c__law_text (z_str : mg "str" = none) {f : Addr} {fd : FuncData} (F : DefF K mg "_law_text" s__law_text ["a"] f fd) : Cal P w K mg base 1 "_law_text" (sp_write_fraction K) := by
  refine cal_of F sc__law_text (fun vs H Q E h => by obtain ⟨_, _, _, rfl, _⟩ := h; rfl) (fun cdv A outer s H vs Q E hr h => ?_)
  obtain ⟨a, n, d, rfl, fa, nb, db, q⟩ := h
  have ln := intL_len (n := n) (k := 600) (by decide) (Nat.lt_of_lt_of_le nb (by decide +kernel))
  have ld := intL_len (n := d) (k := 600) (by decide) (Nat.lt_of_lt_of_le db (by decide +kernel))
  refine ⟨_, (pss_cons (ps_if (pt_cmpR op_eq (pe_ix (k_ixT (K := K) rfl) (pv 0) pe_int (fun _ _ => rfl)) pe_int (nomark _)) (pss_one (ps_ret (pe_callTy cb_strI (by rfl) z_str (by decide +kernel) (pa_cons (pe_ix (k_ixT (K := K) rfl) (pv 0) pe_int (fun _ _ => rfl)) pa_nil)))) pss_nil)
 (pss_one (ps_ret (pe_op op_addS (pe_op op_addS (pe_callTy cb_strI (by rfl) z_str (by decide +kernel) (pa_cons (pe_ix (k_ixT (K := K) rfl) (pv 0) pe_int (fun _ _ => rfl)) pa_nil)) pe_str) (pe_callTy cb_strI (by rfl) z_str (by decide +kernel) (pa_cons (pe_ix (k_ixT (K := K) rfl) (pv 0) pe_int (fun _ _ => rfl)) pa_nil)))))), ?_⟩
  refine w_start (σ := [some _]) rfl ?_
  unfold fracL at q
  walk_at "go"
  refine ite_d (fun h0 => ?_) (fun h0 => ?_)
  · rw [if_pos h0] at q
    walk_at "go"
    refine w_strI nb ?_
    exact q
  · rw [if_neg h0] at q
    walk_at "go"
    refine w_strI nb ?_
    walk_at "go"
    refine w_strI db ?_
    walk_at "go"
    rw [lit_slash, S_cat, S_cat, List.append_assoc]
    exact q
end
end My
namespace My
open PySem PySem.Spec PyProof.Rows L2
open SX (S S_cat S_len S_tl S_inj)
open TL (numL tl)
open PySem.NumText (AllDigits digitsVal)
theorem take_neg {l : List Nat} : decide (l.take 1 = [45]) = negB l := head_is
theorem rd_bad1 {l : List Nat} (h : plainB (cut (rest l)).1 = false) : rd l = none := by
  rw [rd_eq]
  exact if_neg (fun z => by rw [h] at z; exact absurd z.1 (by decide))
theorem rd_bad2 {l q : List Nat} (e : (cut (rest l)).2 = some q) (h : plainB q = false) : rd l = none := by
  rw [rd_eq]
  split
  · rw [e]
    exact if_neg (fun z => by rw [h] at z; exact absurd z.1 (by decide))
  · rfl
section
variable {P : Program} {w : World} {K : PySem.W.Frag} {mg : Str → Option Value} {base : Heap}
abbrev s__law_reading : Stmt := topS 42
theorem sc__law_reading : FnScope ["text", "rest", "halves", "half", "top", "bottom"] ["text"] (defScope s__law_reading) := ⟨rfl, rfl, rfl, by decide +kernel, rfl, by decide +kernel, by decide +kernel⟩
def sp__law_reading (K : PySem.W.Frag) : Sp := fun vs H Q _ => ∃ l : List Nat, vs = [.str (S l)] ∧ l.length ≤ 600 ∧ (rd l = none → ∀ H', Ch [] H H' → Q .non H') ∧ (∀ n d, rd l = some (n, d) → ∀ (t : Addr) H', Ch [] H H' → Fr K H' t n d → Q (.ref t) H')
theorem c__law_reading (T : Txt mg) (C__law_figures : Cal P w K mg base 1 "_law_figures" sp__law_figures) (C__law_gcd : Cal P w K mg base 1 "_law_gcd" sp__law_gcd) {f : Addr} {fd : FuncData} (F : DefF K mg "_law_reading" s__law_reading ["text"] f fd) : Cal P w K mg base 2 "_law_reading" (sp__law_reading K) := by
  refine cal_of F sc__law_reading (fun vs H Q E h => by obtain ⟨_, rfl, _⟩ := h; rfl) (fun cdv A outer s H vs Q E hr h => ?_)
  obtain ⟨l, rfl, ll, qn, q⟩ := h
  refine ⟨_, (pss_cons (ps_set (i := 1) sc__law_reading.nd rfl (Or.inl rfl) (pv 0))
 (Evl.pss_cut (ps_if (pt_cmpR op_eq (pe_slice sl_str (pv 0) po_none (po_some pe_int)) pe_str (nomark _)) (pss_one (ps_set (i := 1) sc__law_reading.nd rfl (Or.inl rfl) (pe_slice sl_str (pv 0) (po_some pe_int) po_none))) pss_nil)
 (pss_cons (ps_set (i := 2) sc__law_reading.nd rfl (Or.inl rfl) (pe_bm PySem.F.plainAttrs_str PySem.F.slot_str_split PySem.F.type_str_split mt_splitS (pv 1) (pa_cons pe_str pa_nil)))
 (pss_cons (ps_if (pt_cmpR op_gt (pe_callB (k_len (K := K) rfl) (by rfl) T.z_len PySem.boot_len (pa_cons (pv 2) pa_nil)) pe_int (nomark _)) (pss_one (ps_ret pe_non)) pss_nil)
 (pss_cons (ps_for PassesOwn.never rfl (k_piL (K := K) rfl (pv 2)) (pg_name (i := 3) sc__law_reading.nd rfl (Or.inl rfl)) (pss_one (ps_if (pt_not (pt_val (pe_cc C__law_figures hr (by decide) (by rfl) (pa_cons (pv 3) pa_nil)))) (pss_one (ps_ret pe_non)) pss_nil)))
 (pss_cons (ps_set (i := 4) sc__law_reading.nd rfl (Or.inl rfl) (pe_callTy cb_intS (by rfl) T.z_int (by decide +kernel) (pa_cons (pe_ix (k_ixL (K := K) rfl) (pv 2) pe_int (fun _ _ => rfl)) pa_nil)))
 (pss_cons (ps_set (i := 5) sc__law_reading.nd rfl (Or.inl rfl) pe_int)
 (Evl.pss_cut (ps_if (pt_cmpR op_eq (pe_callB (k_len (K := K) rfl) (by rfl) T.z_len PySem.boot_len (pa_cons (pv 2) pa_nil)) pe_int (nomark _)) (pss_cons (ps_set (i := 5) sc__law_reading.nd rfl (Or.inl rfl) (pe_callTy cb_intS (by rfl) T.z_int (by decide +kernel) (pa_cons (pe_ix (k_ixL (K := K) rfl) (pv 2) pe_int (fun _ _ => rfl)) pa_nil)))
 (pss_one (ps_if (PW.pt (pw_or (pt_cmpR op_lt (pv 5) pe_int (nomark _)) (pw_or1 (pt_cmpR op_gt (pe_cc C__law_gcd hr (by decide) (by rfl) (pa_cons (pv 4) (pa_cons (pv 5) pa_nil))) pe_int (nomark _))))) (pss_one (ps_ret pe_non)) pss_nil))) pss_nil)
 (pss_cons (ps_if (pt_cmpR op_eq (pe_slice sl_str (pv 0) po_none (po_some pe_int)) pe_str (nomark _)) (pss_cons (ps_if (pt_cmpR op_eq (pv 4) pe_int (nomark _)) (pss_one (ps_ret pe_non)) pss_nil)
 (pss_one (ps_ret (pe_tup (pa_cons (pe_un un_neg (pv 4)) (pa_cons (pv 5) pa_nil)))))) pss_nil)
 (pss_one (ps_ret (pe_tup (pa_cons (pv 4) (pa_cons (pv 5) pa_nil)))))))))))))), ?_⟩
  refine w_start (σ := [some _, none, none, none, none, none]) rfl ?_
  have lr := rest_len l
  have lcu := cut_len (rest l)
  walk_at "go"
  refine w_cut (M := fun σ' H' => H' = H ∧ σ' = [some (.str (S l)), some (.str (S (rest l))), none, none, none, none]) ?_ ?_
  · walk_at "go"
    rw [cut_to (by decide), lit_minus, S_eq, show l.take (Int.toNat 1) = l.take 1 from rfl, take_neg]
    cases nb : negB l with
    | true =>
      refine ite_t ?_
      walk_at "go"
      rw [cut_from (by decide)]
      refine ⟨rfl, ?_⟩
      unfold rest
      rw [if_pos nb]
      rfl
    | false =>
      refine ite_f ?_
      walk_at "go"
      refine ⟨rfl, ?_⟩
      unfold rest
      rw [if_neg (by rw [nb]; decide)]
      rfl
  rintro σ' H' ⟨rfl, rfl⟩
  walk_at "go"
  rw [lit_slash]
  refine w_split (show (1 == 0) = false from rfl) (sz_le (by rw [S_len]; omega)) fun ha H1 n1 c1 h1 => ?_
  cases e : (cut (rest l)).2 with
  | none =>
    obtain ⟨er, _⟩ := cut_none e
    rw [split_none e] at h1
    have h1 : H1 ha = some (.lst ([rest l].map fun h => V.str (S h))) := h1
    have len_of : ∀ h ∈ [rest l], h.length ≤ 1000 := fun h hh => by rw [List.mem_singleton.mp hh]; omega
    have none_of : ∀ h ∈ [rest l], plainB h = false → rd l = none := fun h hh k => rd_bad1 (by rw [er, ← List.mem_singleton.mp hh]; exact k)
    walk_at "go"
    refine w_lenL (.of h1) ?_
    walk_at "go"
    refine ite_f ?_
    walk_at "go"
    refine w_iLr (.of h1) ?_
    refine for_Lx (a := ha) (xs := ([rest l] : List (List Nat)).map fun h => V.str (S h)) (fun i σ H' => H' = H1 ∧ (∀ (j : Nat) (h : List Nat), j < i → ([rest l] : List (List Nat))[j]? = some h → plainB h = true) ∧ ∃ z, σ = [some (.str (S l)), some (.str (S (rest l))), some (.ref ha), z, none, none]) ⟨rfl, fun j h hj => by omega, none, rfl⟩ (fun i σ H' hp => by rw [hp.1]; exact .of h1) ?_ ?_
    · rintro i x σ H' hx ⟨rfl, hd, z, rfl⟩
      rw [List.getElem?_map] at hx
      obtain ⟨h, hh, rfl⟩ := Option.map_eq_some_iff.mp hx
      walk_at "go"
      refine ⟨h, rfl, len_of h (List.mem_of_getElem? hh), ?_⟩
      walk_at "go"
      cases kh : plainB h with
      | false =>
        refine ite_t ?_
        walk_at "go"
        exact qn (none_of h (List.mem_of_getElem? hh) kh) _ c1
      | true =>
        refine ite_f ?_
        refine ⟨rfl, fun j h' hj hh' => ?_, _, rfl⟩
        by_cases e : j = i
        · subst e
          rw [hh] at hh'
          cases hh'
          exact kh
        · exact hd j h' (by omega) hh'
    rintro σ H' ⟨rfl, hd, z, rfl⟩
    have pr : Plain (rest l) := plainB_iff.mp (hd 0 _ (show 0 < 1 by decide) rfl)
    have pp : Plain (cut (rest l)).1 := by rw [er]; exact pr
    walk_at "go"
    refine w_intD (l := rest l) pr.1 pr.ne (by omega) ?_
    rw [show dv (rest l) = dv (cut (rest l)).1 by rw [er]]
    walk_at "go"
    refine w_cut (M := fun σ' H2 => H2 = H' ∧ σ' = [some (.str (S l)), some (.str (S (rest l))), some (.ref ha), z, some (.int (dv (cut (rest l)).1 : Nat)), some (.int 1)]) ?_ ?_
    · walk_at "go"
      refine w_lenL (.of h1) ?_
      walk_at "go"
      refine ite_f ?_
      walk_at "go"
      exact ⟨rfl, rfl⟩
    rintro σ H' ⟨rfl, rfl⟩
    walk_at "go"
    rw [cut_to (by decide), lit_minus, S_eq, show l.take (Int.toNat 1) = l.take 1 from rfl, take_neg]
    cases nb : negB l with
    | true =>
      refine ite_t ?_
      walk_at "go"
      refine ite_d (fun k0 => ?_) (fun k0 => ?_)
      · walk_at "go"
        refine qn ?_ _ c1
        rw [rd_eq]
        refine if_neg (fun z => z.2 ⟨nb, (plain_zero pp).mp ?_⟩)
        omega
      · walk_at "go"
        refine w_newT (show 2 ≤ sizeLine by decide) fun t H2 n2 c2 h2 => ?_
        refine q _ _ ?_ t H2 (c1.trans c2) (.of h2)
        rw [rd_eq, if_pos ⟨plainB_iff.mpr pp, fun z => k0 (by rw [(plain_zero pp).mpr z.2]; rfl)⟩, e]
        show some (sg (negB l) (dv (cut (rest l)).1), (1 : Int)) = _
        rw [nb]
        rfl
    | false =>
      refine ite_f ?_
      walk_at "go"
      refine w_newT (show 2 ≤ sizeLine by decide) fun t H2 n2 c2 h2 => ?_
      refine q _ _ ?_ t H2 (c1.trans c2) (.of h2)
      rw [rd_eq, if_pos ⟨plainB_iff.mpr pp, fun z => by rw [nb] at z; exact absurd z.1 (by decide)⟩, e]
      show some (sg (negB l) (dv (cut (rest l)).1), (1 : Int)) = _
      rw [nb]
      rfl
  | some b =>
    cases e2 : (cut b).2 with
    | some b2 =>
      obtain ⟨hs, es, lh⟩ := split_more e e2
      rw [es] at h1
      walk_at "go"
      refine w_lenL (.of h1) ?_
      rw [List.length_map, List.length_map]
      walk_at "go"
      rw [decide_eq_true (by omega)]
      refine ite_t ?_
      walk_at "go"
      exact qn (rd_bad2 e (slash_not_plain e2)) _ c1
    | none =>
      rw [split_two e e2] at h1
      have h1 : H1 ha = some (.lst ([(cut (rest l)).1, b].map fun h => V.str (S h))) := h1
      have lb : b.length ≤ 600 := by
        have := lcu.2.2
        unfold btL at this
        rw [e] at this
        have : b.length ≤ (rest l).length := this
        omega
      have len_of : ∀ h ∈ [(cut (rest l)).1, b], h.length ≤ 1000 := fun h hh => by
        rcases List.mem_cons.mp hh with z | z
        · rw [z]; omega
        · rw [List.mem_singleton.mp z]; omega
      have none_of : ∀ h ∈ [(cut (rest l)).1, b], plainB h = false → rd l = none := fun h hh k => by
        rcases List.mem_cons.mp hh with z | z
        · exact rd_bad1 (by rw [← z]; exact k)
        · exact rd_bad2 e (by rw [← List.mem_singleton.mp z]; exact k)
      walk_at "go"
      refine w_lenL (.of h1) ?_
      walk_at "go"
      refine ite_f ?_
      walk_at "go"
      refine w_iLr (.of h1) ?_
      refine for_Lx (a := ha) (xs := ([(cut (rest l)).1, b] : List (List Nat)).map fun h => V.str (S h)) (fun i σ H' => H' = H1 ∧ (∀ (j : Nat) (h : List Nat), j < i → ([(cut (rest l)).1, b] : List (List Nat))[j]? = some h → plainB h = true) ∧ ∃ z, σ = [some (.str (S l)), some (.str (S (rest l))), some (.ref ha), z, none, none]) ⟨rfl, fun j h hj => by omega, none, rfl⟩ (fun i σ H' hp => by rw [hp.1]; exact .of h1) ?_ ?_
      · rintro i x σ H' hx ⟨rfl, hd, z, rfl⟩
        rw [List.getElem?_map] at hx
        obtain ⟨h, hh, rfl⟩ := Option.map_eq_some_iff.mp hx
        walk_at "go"
        refine ⟨h, rfl, len_of h (List.mem_of_getElem? hh), ?_⟩
        walk_at "go"
        cases kh : plainB h with
        | false =>
          refine ite_t ?_
          walk_at "go"
          exact qn (none_of h (List.mem_of_getElem? hh) kh) _ c1
        | true =>
          refine ite_f ?_
          refine ⟨rfl, fun j h' hj hh' => ?_, _, rfl⟩
          by_cases e : j = i
          · subst e
            rw [hh] at hh'
            cases hh'
            exact kh
          · exact hd j h' (by omega) hh'
      rintro σ H' ⟨rfl, hd, z, rfl⟩
      have pp : Plain (cut (rest l)).1 := plainB_iff.mp (hd 0 _ (show 0 < 2 by decide) rfl)
      have pb : Plain b := plainB_iff.mp (hd 1 _ (show 1 < 2 by decide) rfl)
      walk_at "go"
      refine w_intD (l := (cut (rest l)).1) pp.1 pp.ne (by omega) ?_
      walk_at "go"
      refine w_cut (M := fun σ' H2 => H2 = H' ∧ σ' = [some (.str (S l)), some (.str (S (rest l))), some (.ref ha), z, some (.int (dv (cut (rest l)).1 : Nat)), some (.int (dv b : Nat))] ∧ 2 ≤ dv b ∧ Nat.gcd (dv (cut (rest l)).1) (dv b) = 1) ?_ ?_
      · walk_at "go"
        refine w_lenL (.of h1) ?_
        walk_at "go"
        refine ite_t ?_
        walk_at "go"
        refine w_intD (l := b) pb.1 pb.ne (by omega) ?_
        walk_at "go"
        refine ite_d (fun k1 => ?_) (fun k1 => ?_)
        · refine ite_t ?_
          walk_at "go"
          refine qn ?_ _ c1
          rw [rd_eq]
          split
          · rw [e]
            exact if_neg (fun z => by omega)
          · rfl
        · walk_at "go"
          refine ⟨_, _, rfl, by rw [Int.natAbs_natCast]; exact dv_bd pb.1 lb, ?_⟩
          walk_at "go"
          rw [Int.natAbs_natCast, Int.natAbs_natCast]
          refine ite_d (fun k2 => ?_) (fun k2 => ?_)
          · walk_at "go"
            refine qn ?_ _ c1
            rw [rd_eq]
            split
            · rw [e]
              exact if_neg (fun z => by omega)
            · rfl
          · walk_at "go"
            refine ⟨rfl, rfl, by omega, ?_⟩
            have := Nat.gcd_pos_of_pos_right (dv (cut (rest l)).1) (show 0 < dv b by omega)
            omega
      rintro σ' H2 ⟨rfl, rfl, k1, k2⟩
      walk_at "go"
      rw [cut_to (by decide), lit_minus, S_eq, show l.take (Int.toNat 1) = l.take 1 from rfl, take_neg]
      have kk : plainB b = true ∧ 2 ≤ dv b ∧ Nat.gcd (dv (cut (rest l)).1) (dv b) = 1 := ⟨plainB_iff.mpr pb, k1, k2⟩
      cases nb : negB l with
      | true =>
        refine ite_t ?_
        walk_at "go"
        refine ite_d (fun k0 => ?_) (fun k0 => ?_)
        · walk_at "go"
          refine qn ?_ _ c1
          rw [rd_eq]
          refine if_neg (fun z => z.2 ⟨nb, (plain_zero pp).mp ?_⟩)
          omega
        · walk_at "go"
          refine w_newT (show 2 ≤ sizeLine by decide) fun t H3 n3 c3 h3 => ?_
          refine q _ _ ?_ t H3 (c1.trans c3) (.of h3)
          rw [rd_eq, if_pos ⟨plainB_iff.mpr pp, fun z => k0 (by rw [(plain_zero pp).mpr z.2]; rfl)⟩, e]
          refine (if_pos kk).trans ?_
          rw [nb]
          rfl
      | false =>
        refine ite_f ?_
        walk_at "go"
        refine w_newT (show 2 ≤ sizeLine by decide) fun t H3 n3 c3 h3 => ?_
        refine q _ _ ?_ t H3 (c1.trans c3) (.of h3)
        rw [rd_eq, if_pos ⟨plainB_iff.mpr pp, fun z => by rw [nb] at z; exact absurd z.1 (by decide)⟩, e]
        refine (if_pos kk).trans ?_
        rw [nb]
        rfl
end
end My
namespace My
open PySem PySem.Spec PyProof.Rows L2
open SX (S S_cat S_len S_tl S_inj)
open TL (numL tl)
open PySem.NumText (AllDigits digitsVal)
section
variable {P : Program} {w : World} {K : PySem.W.Frag} {mg : Str → Option Value} {base : Heap}
theorem w_isiSS {H : Hp} {Q : VK} {x : Str} (q : Q (.bl true) H) : rIsi K [.str x, .ty "str"] H Q := ⟨_, _, _, _, _, rfl, .ty _, .base (.str x), kit_ty (by decide +kernel), q⟩
abbrev s__law_text_holds : Stmt := topS 43
theorem sc__law_text_holds : FnScope ["text", "due", "told", "failure", "back"] ["text"] (defScope s__law_text_holds) := ⟨rfl, rfl, rfl, by decide +kernel, rfl, by decide +kernel, by decide +kernel⟩
def sp__law_text_holds : Sp := fun vs H Q _ => ∃ x : Str, vs = [.str x] ∧ x.length ≤ 560 ∧ ∀ H', Ch [] H H' → Q (.bl true) H'
theorem c__law_text_holds {A_InvalidStretch A_InvalidText A_DivisionByZero A_CellspireError : Addr} (T : Txt mg) (z_str : mg "str" = none) (z_ValueError : mg "ValueError" = none) (G_InvalidStretch : mg "InvalidStretch" = some (.ref A_InvalidStretch)) (G_InvalidText : mg "InvalidText" = some (.ref A_InvalidText))
    (G_DivisionByZero : mg "DivisionByZero" = some (.ref A_DivisionByZero)) (G_CellspireError : mg "CellspireError" = some (.ref A_CellspireError)) (XC_InvalidText : ExcC K A_InvalidText) (NA_InvalidText_at : PySem.W.findIn K (.ref A_InvalidText) "at" = some none)
    (e1 : PySem.W.exmOne K (.ref A_InvalidText) (.ref A_InvalidText) = some true) (e2 : PySem.W.kitOne K (.ref A_InvalidText) (.ref A_InvalidStretch) = some false) (e3 : PySem.W.kitOne K (.ref A_InvalidText) (.ref A_DivisionByZero) = some false)
    (e4 : PySem.W.kitOne K (.ref A_InvalidText) (.ref A_CellspireError) = some true) (e5 : PySem.W.kitOne K (.ref A_InvalidText) (.type "ValueError") = some true)
    (C__law_reading : Cal P w K mg base 2 "_law_reading" (sp__law_reading K)) (C_read_fraction : CalN P w K mg base 3 "read_fraction" (sp_read_fraction K A_InvalidText)) (H__law_is_integer : CalH P w K mg base 1 "_law_is_integer" sp__law_is_integer) (C__law_same : Cal P w K mg base 2 "_law_same" (sp__law_same K))
    (C_write_fraction : Cal P w K mg base 4 "write_fraction" (sp_write_fraction K)) {f : Addr} {fd : FuncData} (F : DefF K mg "_law_text_holds" s__law_text_holds ["text"] f fd) : Cal P w K mg base 5 "_law_text_holds" sp__law_text_holds := by
  refine cal_of F sc__law_text_holds (fun vs H Q E h => by obtain ⟨_, rfl, _⟩ := h; rfl) (fun cdv A outer s H vs Q E hr h => ?_)
  obtain ⟨x, rfl, lx, q⟩ := h
  obtain ⟨l, rfl, ll⟩ := S_ex x
  rw [← ll] at lx
  refine ⟨_, (pss_cons (ps_set (i := 1) sc__law_text_holds.nd rfl (Or.inl rfl) (pe_cc C__law_reading hr (by decide) (by rfl) (pa_cons (pv 0) pa_nil)))
 (pss_cons (L2N.ps_try_as (i := 3) (Wout := fun _ _ _ _ => False) rfl rfl sc__law_text_holds.nd rfl rfl ⟨rfl, by decide, Or.inl G_InvalidText⟩ takesN0 (fun W pn xe tk _ => (pss_one (ps_set (i := 2) sc__law_text_holds.nd rfl (Or.inl rfl) (pe_ccSN C_read_fraction hr (by decide) (by rfl) tk (pa_cons (pv 0) pa_nil)))))
  (fun a oe cls d pn hz hf => (pss_cons (ps_if (PW.pt (pw_or (pt_cmpR op_notN (pv 1) pe_non (nomark _)) (pw_or (pt_not (pt_val (pe_ccH H__law_is_integer (L2H.roomH_mark hr _) (by decide) (hot_suite hz hf) (by rfl) (pa_cons (pe_xf (xf_of XC_InvalidText) NA_InvalidText_at hz.zc hf (pv 3)) pa_nil)))) (pw_or1 (pt_cmpR op_ne (pe_xf (xf_of XC_InvalidText) NA_InvalidText_at hz.zc hf (pv 3)) pe_int (nomark _)))))) (pss_one (ps_ret pe_bl)) pss_nil)
 (pss_cons (ps_if (PW.pt (pw_or (pt_val (pe_callB (k_isY (K := K) rfl XC_InvalidText hz.zc hf) (by rfl) T.z_isinstance (by decide +kernel) (pa_cons (pv 3) (pa_cons (pe_glob (v := .ref A_InvalidStretch) (by rfl) G_InvalidStretch rfl) pa_nil)))) (pw_or1 (pt_val (pe_callB (k_isY (K := K) rfl XC_InvalidText hz.zc hf) (by rfl) T.z_isinstance (by decide +kernel) (pa_cons (pv 3) (pa_cons (pe_glob (v := .ref A_DivisionByZero) (by rfl) G_DivisionByZero rfl) pa_nil))))))) (pss_one (ps_ret pe_bl)) pss_nil)
 (pss_one (ps_ret (pe_and (pe_callB (k_isY (K := K) rfl XC_InvalidText hz.zc hf) (by rfl) T.z_isinstance (by decide +kernel) (pa_cons (pv 3) (pa_cons (pe_glob (v := .ref A_CellspireError) (by rfl) G_CellspireError rfl) pa_nil))) (pe_one (pe_callB (k_isY (K := K) rfl XC_InvalidText hz.zc hf) (by rfl) T.z_isinstance (by decide +kernel) (pa_cons (pv 3) (pa_cons (pe_bltn (by rfl) z_ValueError (by decide +kernel) (v := .ty "ValueError") rfl) pa_nil)))))))))))
 (pss_cons (ps_if (PW.pt (pw_or (pt_cmpR op_isN (pv 1) pe_non (nomark _)) (pw_or1 (pt_not (pt_val (pe_cc C__law_same hr (by decide) (by rfl) (pa_cons (pv 2) (pa_cons (pv 1) pa_nil)))))))) (pss_one (ps_ret pe_bl)) pss_nil)
 (pss_cons (ps_set (i := 4) sc__law_text_holds.nd rfl (Or.inl rfl) (pe_cc C_write_fraction hr (by decide) (by rfl) (pa_cons (pv 2) pa_nil)))
 (pss_one (ps_ret (pe_and (pe_callB (k_isi (K := K) rfl) (by rfl) T.z_isinstance (by decide +kernel) (pa_cons (pv 4) (pa_cons (pe_bltn (by rfl) z_str (by decide +kernel) (v := .ty "str") rfl) pa_nil))) (pe_one (pe_cmpR op_eq (pv 4) (pv 0) (nomark _)))))))))), ?_⟩
  refine w_start (σ := [some _, none, none, none, none]) rfl ?_
  walk_at "go"
  refine ⟨l, rfl, by omega, fun hn H1 c1 => ?_, fun n d hs t H1 c1 ft => ?_⟩
  · walk_at "go"
    refine w_callS ?_
    walk_at "go"
    refine ⟨l, rfl, by omega, fun _ dd H2 c2 hx => ?_, fun n d hs => by rw [hn] at hs; cases hs⟩
    refine ⟨true, e1, fun _ x nx => ?_, fun h => nomatch h⟩
    walk_at "go"
    refine ⟨rfl, ?_⟩
    walk_at "go"
    refine ite_f ?_
    walk_at "go"
    refine w_callS ?_
    walk_at "go"
    refine w_xf ?_
    walk_at "go"
    refine ⟨rfl, rfl, dd, _, _, rfl, hx, rfl, ?_⟩
    walk_at "go"
    refine ⟨_, rfl, ?_⟩
    walk_at "go"
    refine ite_f ?_
    walk_at "go"
    refine w_xf ?_
    walk_at "go"
    refine ⟨rfl, rfl, dd, _, _, rfl, hx, rfl, ?_⟩
    walk_at "go"
    refine ite_f ?_
    walk_at "go"
    refine w_isY (cv := .ref A_InvalidStretch) (.inr ⟨dd, _, rfl, hx⟩) (fun u r => r) e2 ?_
    walk_at "go"
    refine ite_f ?_
    walk_at "go"
    refine w_isY (cv := .ref A_DivisionByZero) (.inr ⟨dd, _, rfl, hx⟩) (fun u r => r) e3 ?_
    walk_at "go"
    refine ite_f ?_
    walk_at "go"
    refine w_isY (cv := .ref A_CellspireError) (.inr ⟨dd, _, rfl, hx⟩) (fun u r => r) e4 ?_
    walk_at "go"
    refine ite_t ?_
    walk_at "go"
    refine w_isY (cv := .type "ValueError") (.inr ⟨dd, _, rfl, hx⟩) (fun u r => r) e5 ?_
    exact q _ (c1.trans c2)
  · obtain ⟨nb, db⟩ := rd_bd hs lx
    obtain ⟨back, _⟩ := rd_back hs
    walk_at "go"
    refine w_callS ?_
    walk_at "go"
    refine ⟨l, rfl, by omega, fun hn => (by rw [hs] at hn; cases hn), fun n' d' hs' t2 H2 c2 f2 => ?_⟩
    rw [hs] at hs'
    cases hs'
    walk_at "go"
    refine ⟨rfl, ?_⟩
    walk_at "go"
    refine ite_f ?_
    walk_at "go"
    refine ⟨t2, t, _, _, rfl, f2, c2.sqT ft, (show 2 ≤ 1000 by decide), (show 2 ≤ 1000 by decide), ?_⟩
    rw [decide_eq_true rfl]
    walk_at "go"
    refine ite_f ?_
    walk_at "go"
    refine ⟨t2, n, d, rfl, f2, nb, db, ?_⟩
    rw [back]
    walk_at "go"
    refine w_isiSS ?_
    walk_at "go"
    refine ite_t ?_
    walk_at "go"
    rw [decide_eq_true rfl]
    exact q _ (c1.trans c2)
abbrev s__law_writing_holds : Stmt := topS 48
theorem sc__law_writing_holds : FnScope ["a", "told"] ["a"] (defScope s__law_writing_holds) := ⟨rfl, rfl, rfl, by decide +kernel, rfl, by decide +kernel, by decide +kernel⟩
def sp__law_writing_holds (K : PySem.W.Frag) : Sp := fun vs H Q _ => ∃ (a : Addr) (n d : Int), vs = [.ref a] ∧ Fr K H a n d ∧ Num n d ∧ ∀ H', Ch [] H H' → Q (.bl true) H'
theorem fracL_len {n d : Int} (h1 : n.natAbs < 10 ^ 91) (h2 : d.natAbs < 10 ^ 91) : (fracL n d).length ≤ 185 := by
  have a := intL_len (n := n) (k := 91) (by decide) h1
  have b := intL_len (n := d) (k := 91) (by decide) h2
  unfold fracL
  split
  · omega
  · rw [List.length_append, List.length_cons]
    omega
theorem c__law_writing_holds {A_InvalidText : Addr} (T : Txt mg) (z_str : mg "str" = none) (C_write_fraction : Cal P w K mg base 4 "write_fraction" (sp_write_fraction K)) (C__law_text : Cal P w K mg base 1 "_law_text" (sp_write_fraction K)) (C_read_fraction : CalN P w K mg base 3 "read_fraction" (sp_read_fraction K A_InvalidText)) (C__law_same : Cal P w K mg base 2 "_law_same" (sp__law_same K))
    {f : Addr} {fd : FuncData} (F : DefF K mg "_law_writing_holds" s__law_writing_holds ["a"] f fd) : Cal P w K mg base 5 "_law_writing_holds" (sp__law_writing_holds K) := by
  refine cal_of F sc__law_writing_holds (fun vs H Q E h => by obtain ⟨_, _, _, rfl, _⟩ := h; rfl) (fun cdv A outer s H vs Q E hr h => ?_)
  obtain ⟨a, n, d, rfl, fa, N, q⟩ := h
  have bn : n.natAbs < 2 ^ 1900 := abs_mono N.bn (by decide)
  have bd : d.natAbs < 2 ^ 1900 := abs_mono N.bd (by decide)
  have lf := fracL_len (pow2_10 N.bn) (pow2_10 N.bd)
  have rf := rd_frac N.pos N.cop
  refine ⟨_, (pss_cons (ps_set (i := 1) sc__law_writing_holds.nd rfl (Or.inl rfl) (pe_cc C_write_fraction hr (by decide) (by rfl) (pa_cons (pv 0) pa_nil)))
 (pss_one (ps_ret (pe_and (pe_callB (k_isi (K := K) rfl) (by rfl) T.z_isinstance (by decide +kernel) (pa_cons (pv 1) (pa_cons (pe_bltn (by rfl) z_str (by decide +kernel) (v := .ty "str") rfl) pa_nil))) (pe_and (pe_cmpR op_eq (pv 1) (pe_cc C__law_text hr (by decide) (by rfl) (pa_cons (pv 0) pa_nil)) (nomark _)) (pe_one (pe_cc C__law_same hr (by decide) (by rfl) (pa_cons (pe_ccN C_read_fraction hr (by decide) (by rfl) (pa_cons (pv 1) pa_nil)) (pa_cons (pv 0) pa_nil))))))))), ?_⟩
  refine w_start (σ := [some _, none]) rfl ?_
  walk_at "go"
  refine ⟨a, n, d, rfl, fa, bn, bd, ?_⟩
  walk_at "go"
  refine w_isiSS ?_
  walk_at "go"
  refine ite_t ?_
  walk_at "go"
  refine ⟨a, n, d, rfl, fa, bn, bd, ?_⟩
  walk_at "go"
  rw [decide_eq_true rfl]
  refine ite_t ?_
  walk_at "go"
  refine ⟨_, rfl, by omega, fun hn => (by rw [rf] at hn; cases hn), fun n' d' hs t H1 c1 ft => ?_⟩
  rw [rf] at hs
  cases hs
  walk_at "go"
  refine ⟨t, a, _, _, rfl, ft, c1.sqT fa, (show 2 ≤ 1000 by decide), (show 2 ≤ 1000 by decide), ?_⟩
  rw [decide_eq_true rfl]
  exact q _ c1
end
end My
namespace My
open PySem PySem.Spec PyProof.Rows L2
open SX (S S_cat S_len S_tl S_inj)
open TL (numL tl)
open PySem.NumText (AllDigits digitsVal)
/-- values that are texts of 560 signs at most -/
def SB (vs : List V) : Prop := ∀ v ∈ vs, ∃ x : Str, v = .str x ∧ x.length ≤ 560
theorem sb_nil : SB [] := fun v h => by simp at h
theorem sb_cons {x : Str} {vs : List V} (h : x.length ≤ 560) (r : SB vs) : SB (.str x :: vs) := fun v hv => by
  rcases List.mem_cons.mp hv with e | e
  · exact ⟨x, e, h⟩
  · exact r v e
theorem sb_app {vs ws : List V} (a : SB vs) (b : SB ws) : SB (vs ++ ws) := fun v hv => (List.mem_append.mp hv).elim (a v) (b v)
theorem w_newLS {xs : List V} {H : Hp} {Q : VK} (hl : xs.length ≤ sizeLine) (ha : SB xs) (q : ∀ p H', H p = none → Ch [] H H' → H' p = some (.lst xs) → SB xs → Q (.ref p) H') : NewL xs H Q := w_newL hl fun p H' n c h => q p H' n c h ha
local macro_rules | `(tactic| walk_at "sb") => `(tactic| (repeat' first
  | exact sb_nil
  | refine sb_cons ?_ ?_
  | (simp only [PySem.Str.length_append, lenlit]; done)
  | (simp only [PySem.Str.length_append, lenlit]; omega)))
section
variable {P : Program} {w : World} {K : PySem.W.Frag} {mg : Str → Option Value} {base : Heap}
abbrev s__law_wrong_texts : Stmt := topS 44
theorem sc__law_wrong_texts : FnScope ["a", "text", "top", "size", "bottom", "texts"] ["a"] (defScope s__law_wrong_texts) := ⟨rfl, rfl, rfl, by decide +kernel, rfl, by decide +kernel, by decide +kernel⟩
def sp__law_wrong_texts (K : PySem.W.Frag) : Sp := fun vs H Q _ => ∃ (a : Addr) (n d : Int), vs = [.ref a] ∧ Fr K H a n d ∧ Num n d ∧ ∀ (t : Addr) H' (xs : List V), Ch [] H H' → H' t = some (.lst xs) → SB xs → Q (.ref t) H'
theorem c__law_wrong_texts (T : Txt mg) (z_str : mg "str" = none) (C__law_text : Cal P w K mg base 1 "_law_text" (sp_write_fraction K)) {f : Addr} {fd : FuncData} (F : DefF K mg "_law_wrong_texts" s__law_wrong_texts ["a"] f fd) : Cal P w K mg base 2 "_law_wrong_texts" (sp__law_wrong_texts K) := by
  refine cal_of F sc__law_wrong_texts (fun vs H Q E h => by obtain ⟨_, _, _, rfl, _⟩ := h; rfl) (fun cdv A outer s H vs Q E hr h => ?_)
  obtain ⟨a, n, d, rfl, fa, N, q⟩ := h
  have bn : n.natAbs < 2 ^ 1900 := abs_mono N.bn (by decide)
  have bd : d.natAbs < 2 ^ 1900 := abs_mono N.bd (by decide)
  have n91 := pow2_10 N.bn
  have d91 := pow2_10 N.bd
  have l0 : (S (fracL n d)).length ≤ 185 := by rw [S_len]; exact fracL_len n91 d91
  have l1 : (S (intL n)).length ≤ 92 := by rw [S_len]; exact intL_len (by decide) n91
  have l2 : (S (intL (n.natAbs : Nat))).length ≤ 92 := by rw [S_len]; exact intL_len (by decide) (by rw [Int.natAbs_natCast]; exact n91)
  have l3 : (S (intL d)).length ≤ 92 := by rw [S_len]; exact intL_len (by decide) d91
  refine ⟨_, (pss_cons (ps_set (i := 1) sc__law_wrong_texts.nd rfl (Or.inl rfl) (pe_cc C__law_text hr (by decide) (by rfl) (pa_cons (pv 0) pa_nil)))
 (pss_cons (ps_set (i := 2) sc__law_wrong_texts.nd rfl (Or.inl rfl) (pe_callTy cb_strI (by rfl) z_str (by decide +kernel) (pa_cons (pe_ix (k_ixT (K := K) rfl) (pv 0) pe_int (fun _ _ => rfl)) pa_nil)))
 (pss_cons (ps_set (i := 3) sc__law_wrong_texts.nd rfl (Or.inl rfl) (pe_callTy cb_strI (by rfl) z_str (by decide +kernel) (pa_cons (pe_callB cb_abs (by rfl) T.z_abs (by decide +kernel) (pa_cons (pe_ix (k_ixT (K := K) rfl) (pv 0) pe_int (fun _ _ => rfl)) pa_nil)) pa_nil)))
 (pss_cons (ps_set (i := 4) sc__law_wrong_texts.nd rfl (Or.inl rfl) (pe_callTy cb_strI (by rfl) z_str (by decide +kernel) (pa_cons (pe_ix (k_ixT (K := K) rfl) (pv 0) pe_int (fun _ _ => rfl)) pa_nil)))
 (pss_cons (ps_set (i := 5) sc__law_wrong_texts.nd rfl (Or.inl rfl) (pe_lst (pa_cons pe_str (pa_cons pe_str (pa_cons pe_str (pa_cons pe_str (pa_cons pe_str (pa_cons pe_str (pa_cons pe_str (pa_cons (pe_op op_addS pe_str (pv 3)) (pa_cons (pe_op op_addS pe_str (pv 3)) (pa_cons (pe_op op_addS pe_str (pv 3)) (pa_cons (pe_op op_addS pe_str (pv 3)) pa_nil)))))))))))))
 (pss_cons (ps_set (i := 5) sc__law_wrong_texts.nd rfl (Or.inl rfl) (pe_op op_cat (pv 5) (pe_lst (pa_cons (pe_op op_addS pe_str (pv 3)) (pa_cons (pe_op op_addS pe_str (pv 3)) (pa_cons (pe_op op_addS pe_str (pv 1)) (pa_cons (pe_op op_addS (pv 1) pe_str) (pa_cons (pe_op op_addS pe_str (pv 1)) (pa_cons (pe_op op_addS (pv 1) pe_str) pa_nil)))))))))
 (pss_cons (ps_set (i := 5) sc__law_wrong_texts.nd rfl (Or.inl rfl) (pe_op op_cat (pv 5) (pe_lst (pa_cons (pe_op op_addS (pe_op op_addS pe_str (pv 1)) pe_str) (pa_cons (pe_op op_addS (pv 1) pe_str) (pa_cons (pe_op op_addS (pv 2) pe_str) (pa_cons (pe_op op_addS (pv 2) pe_str) (pa_cons (pe_op op_addS (pv 2) pe_str) (pa_cons (pe_op op_addS (pv 2) pe_str) pa_nil)))))))))
 (pss_cons (ps_set (i := 5) sc__law_wrong_texts.nd rfl (Or.inl rfl) (pe_op op_cat (pv 5) (pe_lst (pa_cons (pe_op op_addS pe_str (pv 4)) (pa_cons (pe_op op_addS pe_str (pv 4)) (pa_cons (pe_op op_addS (pe_op op_addS (pv 2) pe_str) (pv 4)) (pa_cons (pe_op op_addS (pe_op op_addS (pv 2) pe_str) (pv 4)) pa_nil)))))))
 (pss_cons (ps_set (i := 5) sc__law_wrong_texts.nd rfl (Or.inl rfl) (pe_op op_cat (pv 5) (pe_lst (pa_cons (pe_op op_addS (pe_op op_addS (pv 2) pe_str) (pv 4)) (pa_cons (pe_op op_addS (pe_op op_addS (pv 2) pe_str) (pv 4)) pa_nil)))))
 (pss_cons (ps_set (i := 5) sc__law_wrong_texts.nd rfl (Or.inl rfl) (pe_op op_cat (pv 5) (pe_lst (pa_cons (pe_op op_addS (pe_op op_addS (pv 2) pe_str) (pv 4)) (pa_cons (pe_op op_addS (pe_op op_addS (pv 2) pe_str) (pv 4)) (pa_cons (pe_op op_addS (pe_op op_addS (pv 2) pe_str) (pv 4)) pa_nil))))))
 (pss_cons (ps_set (i := 5) sc__law_wrong_texts.nd rfl (Or.inl rfl) (pe_op op_cat (pv 5) (pe_lst (pa_cons (pe_op op_addS (pe_op op_addS (pe_op op_addS (pe_op op_addS (pv 2) pe_str) (pv 4)) pe_str) (pv 4)) pa_nil))))
 (pss_cons (ps_set (i := 5) sc__law_wrong_texts.nd rfl (Or.inl rfl) (pe_op op_cat (pv 5) (pe_lst (pa_cons (pe_op op_addS (pv 2) pe_str) (pa_cons (pe_op op_addS (pv 2) pe_str) (pa_cons (pe_op op_addS (pv 2) pe_str) (pa_cons (pe_op op_addS pe_str (pv 2)) (pa_cons (pe_op op_addS (pv 2) pe_str) (pa_cons (pe_op op_addS (pv 2) pe_str) (pa_cons (pe_op op_addS pe_str (pv 3)) pa_nil))))))))))
 (pss_cons (ps_set (i := 5) sc__law_wrong_texts.nd rfl (Or.inl rfl) (pe_op op_cat (pv 5) (pe_lst (pa_cons (pe_op op_addS pe_str (pv 4)) (pa_cons (pe_op op_addS pe_str (pv 4)) (pa_cons (pe_op op_addS (pe_op op_addS (pv 4) pe_str) (pv 3)) (pa_cons (pe_op op_addS (pe_op op_addS (pv 2) pe_str) (pv 3)) pa_nil)))))))
 (pss_one (ps_ret (pe_op op_cat (pv 5) (pe_lst (pa_cons (pe_op op_addS (pe_op op_addS (pe_callTy cb_strI (by rfl) z_str (by decide +kernel) (pa_cons (pe_op op_mulG pe_int (pe_ix (k_ixT (K := K) rfl) (pv 0) pe_int (fun _ _ => rfl))) pa_nil)) pe_str) (pe_callTy cb_strI (by rfl) z_str (by decide +kernel) (pa_cons (pe_op op_mulG pe_int (pe_ix (k_ixT (K := K) rfl) (pv 0) pe_int (fun _ _ => rfl))) pa_nil))) (pa_cons (pe_op op_addS (pe_op op_addS (pe_callTy cb_strI (by rfl) z_str (by decide +kernel) (pa_cons (pe_op op_mulG pe_int (pe_ix (k_ixT (K := K) rfl) (pv 0) pe_int (fun _ _ => rfl))) pa_nil)) pe_str) (pe_callTy cb_strI (by rfl) z_str (by decide +kernel) (pa_cons (pe_op op_mulG pe_int (pe_ix (k_ixT (K := K) rfl) (pv 0) pe_int (fun _ _ => rfl))) pa_nil))) pa_nil))))))))))))))))))), ?_⟩
  refine w_start (σ := [some _, none, none, none, none, none]) rfl ?_
  walk_at "go"
  refine ⟨a, n, d, rfl, fa, bn, bd, ?_⟩
  generalize S (fracL n d) = X0 at l0 ⊢
  walk_at "go"
  refine w_strI bn ?_
  generalize S (intL n) = X1 at l1 ⊢
  walk_at "go"
  refine w_strI (by rw [Int.natAbs_natCast]; exact bn) ?_
  generalize S (intL (n.natAbs : Nat)) = X2 at l2 ⊢
  walk_at "go"
  refine w_strI bd ?_
  generalize S (intL d) = X3 at l3 ⊢
  walk_at "go"
  refine w_newLS (show 11 ≤ sizeLine by decide) ?_ fun p H1 n1 c1 h1 a1 => ?_
  · walk_at "sb"
  have c := c1
  have h := h1
  have sb := a1
  walk_at "go"
  refine w_newLS (show 6 ≤ sizeLine by decide) ?_ fun p Hp np cp hp ap => ?_
  · walk_at "sb"
  walk_at "go"
  refine w_cat (cp.at0 h) hp (show 11 + 6 ≤ sizeLine by decide) fun l Hl nl cl hl => ?_
  have c := (c.trans cp).trans cl
  have h := hl
  have sb := sb_app sb ap
  clear hl np nl hp ap
  walk_at "go"
  refine w_newLS (show 6 ≤ sizeLine by decide) ?_ fun p Hp np cp hp ap => ?_
  · walk_at "sb"
  walk_at "go"
  refine w_cat (cp.at0 h) hp (show 17 + 6 ≤ sizeLine by decide) fun l Hl nl cl hl => ?_
  have c := (c.trans cp).trans cl
  have h := hl
  have sb := sb_app sb ap
  clear hl np nl hp ap
  walk_at "go"
  refine w_newLS (show 4 ≤ sizeLine by decide) ?_ fun p Hp np cp hp ap => ?_
  · walk_at "sb"
  walk_at "go"
  refine w_cat (cp.at0 h) hp (show 23 + 4 ≤ sizeLine by decide) fun l Hl nl cl hl => ?_
  have c := (c.trans cp).trans cl
  have h := hl
  have sb := sb_app sb ap
  clear hl np nl hp ap
  walk_at "go"
  refine w_newLS (show 2 ≤ sizeLine by decide) ?_ fun p Hp np cp hp ap => ?_
  · walk_at "sb"
  walk_at "go"
  refine w_cat (cp.at0 h) hp (show 27 + 2 ≤ sizeLine by decide) fun l Hl nl cl hl => ?_
  have c := (c.trans cp).trans cl
  have h := hl
  have sb := sb_app sb ap
  clear hl np nl hp ap
  walk_at "go"
  refine w_newLS (show 3 ≤ sizeLine by decide) ?_ fun p Hp np cp hp ap => ?_
  · walk_at "sb"
  walk_at "go"
  refine w_cat (cp.at0 h) hp (show 29 + 3 ≤ sizeLine by decide) fun l Hl nl cl hl => ?_
  have c := (c.trans cp).trans cl
  have h := hl
  have sb := sb_app sb ap
  clear hl np nl hp ap
  walk_at "go"
  refine w_newLS (show 1 ≤ sizeLine by decide) ?_ fun p Hp np cp hp ap => ?_
  · walk_at "sb"
  walk_at "go"
  refine w_cat (cp.at0 h) hp (show 32 + 1 ≤ sizeLine by decide) fun l Hl nl cl hl => ?_
  have c := (c.trans cp).trans cl
  have h := hl
  have sb := sb_app sb ap
  clear hl np nl hp ap
  walk_at "go"
  refine w_newLS (show 7 ≤ sizeLine by decide) ?_ fun p Hp np cp hp ap => ?_
  · walk_at "sb"
  walk_at "go"
  refine w_cat (cp.at0 h) hp (show 33 + 7 ≤ sizeLine by decide) fun l Hl nl cl hl => ?_
  have c := (c.trans cp).trans cl
  have h := hl
  have sb := sb_app sb ap
  clear hl np nl hp ap
  walk_at "go"
  refine w_newLS (show 4 ≤ sizeLine by decide) ?_ fun p Hp np cp hp ap => ?_
  · walk_at "sb"
  walk_at "go"
  refine w_cat (cp.at0 h) hp (show 40 + 4 ≤ sizeLine by decide) fun l Hl nl cl hl => ?_
  have c := (c.trans cp).trans cl
  have h := hl
  have sb := sb_app sb ap
  clear hl np nl hp ap
  have m2 : (2 * n).natAbs < 10 ^ 92 := by omega
  have m3 : (3 * n).natAbs < 10 ^ 92 := by omega
  have e2 : (2 * d).natAbs < 10 ^ 92 := by omega
  have e3 : (3 * d).natAbs < 10 ^ 92 := by omega
  have up : ∀ {x : Nat}, x < 10 ^ 92 → x < 2 ^ 1900 := fun h => Nat.lt_of_lt_of_le h (by decide +kernel)
  have fa := c.sqT fa
  have k0 : (S (intL (2 * n))).length ≤ 93 := by rw [S_len]; exact intL_len (by decide) m2
  walk_at "go"
  refine w_strI (up m2) ?_
  generalize S (intL (2 * n)) = Y0 at k0 ⊢
  have k1 : (S (intL (2 * d))).length ≤ 93 := by rw [S_len]; exact intL_len (by decide) e2
  walk_at "go"
  refine w_strI (up e2) ?_
  generalize S (intL (2 * d)) = Y1 at k1 ⊢
  have k2 : (S (intL (3 * n))).length ≤ 93 := by rw [S_len]; exact intL_len (by decide) m3
  walk_at "go"
  refine w_strI (up m3) ?_
  generalize S (intL (3 * n)) = Y2 at k2 ⊢
  have k3 : (S (intL (3 * d))).length ≤ 93 := by rw [S_len]; exact intL_len (by decide) e3
  walk_at "go"
  refine w_strI (up e3) ?_
  generalize S (intL (3 * d)) = Y3 at k3 ⊢
  walk_at "go"
  refine w_newLS (show 2 ≤ sizeLine by decide) ?_ fun p Hp np cp hp ap => ?_
  · walk_at "sb"
  walk_at "go"
  refine w_cat (cp.at0 h) hp (show 44 + 2 ≤ sizeLine by decide) fun l Hl nl cl hl => ?_
  have c := (c.trans cp).trans cl
  have h := hl
  have sb := sb_app sb ap
  clear hl np nl hp ap
  exact q l Hl _ c h sb
abbrev s__law_long_fraction : Stmt := topS 45
theorem sc__law_long_fraction : FnScope ["box", "top"] ["box"] (defScope s__law_long_fraction) := ⟨rfl, rfl, rfl, by decide +kernel, rfl, by decide +kernel, by decide +kernel⟩
def sp__law_long_fraction (K : PySem.W.Frag) : Sp := fun vs H Q _ => ∃ (b : Addr), vs = [.ref b] ∧ RB H b ∧ ∀ (a : Addr) (n d : Int) H', n.natAbs < 10 ^ 91 → d.natAbs < 10 ^ 91 → Ch [b] H H' → RB H' b → Fr K H' a n d → Q (.ref a) H'
theorem limb_bd {r : Int} {k : Nat} (h0 : 0 ≤ r) (h : r < 100000 ^ k) (hk : k ≤ 18) : r.natAbs < 10 ^ 90 := by
  have e : ((100000 : Int) ^ k) ≤ 100000 ^ 18 := pow_le (by decide) hk
  rw [show (100000 : Int) ^ 18 = 10 ^ 90 by decide +kernel] at e
  omega
theorem c__law_long_fraction (C__law_take : Cal P w K mg base 1 "_law_take" sp__law_take) (C__law_turned : Cal P w K mg base 2 "_law_turned" sp__law_turned) (C__law_limbs : Cal P w K mg base 2 "_law_limbs" sp__law_limbs) (C__law_lowest : Cal P w K mg base 2 "_law_lowest" (sp__law_lowest K))
    {f : Addr} {fd : FuncData} (F : DefF K mg "_law_long_fraction" s__law_long_fraction ["box"] f fd) : Cal P w K mg base 3 "_law_long_fraction" (sp__law_long_fraction K) := by
  refine cal_of F sc__law_long_fraction (fun vs H Q E h => by obtain ⟨_, rfl, _⟩ := h; rfl) (fun cdv A outer s H vs Q E hr h => ?_)
  obtain ⟨b, rfl, B, q⟩ := h
  refine ⟨_, (pss_cons (ps_set (i := 1) sc__law_long_fraction.nd rfl (Or.inl rfl) (pe_cc C__law_turned hr (by decide) (by rfl) (pa_cons (pv 0) (pa_cons (pe_cc C__law_limbs hr (by decide) (by rfl) (pa_cons (pv 0) (pa_cons (pe_op op_add pe_int (pe_cc C__law_take hr (by decide) (by rfl) (pa_cons (pv 0) (pa_cons pe_int pa_nil)))) pa_nil))) pa_nil))))
 (pss_one (ps_ret (pe_cc C__law_lowest hr (by decide) (by rfl) (pa_cons (pv 1) (pa_cons (pe_op op_add pe_int (pe_cc C__law_limbs hr (by decide) (by rfl) (pa_cons (pv 0) (pa_cons (pe_op op_add pe_int (pe_cc C__law_take hr (by decide) (by rfl) (pa_cons (pv 0) (pa_cons pe_int pa_nil)))) pa_nil)))) pa_nil)))))), ?_⟩
  refine w_start (σ := [some _, none]) rfl ?_
  walk_at "go"
  refine ⟨b, 18, rfl, B, by decide, by decide +kernel, fun k1 H1 a0 a1 c1 B => ?_⟩
  walk_at "go"
  refine ⟨b, 1 + k1, rfl, B, by omega, by omega, fun r H2 r0 r1 c2 B => ?_⟩
  have br := limb_bd r0 r1 (by omega)
  walk_at "go"
  refine ⟨b, r, rfl, B, fun u H3 eu c3 B => ?_⟩
  walk_at "go"
  refine ⟨b, 18, rfl, B, by decide, by decide +kernel, fun k2 H4 b0 b1 c4 B => ?_⟩
  walk_at "go"
  refine ⟨b, 1 + k2, rfl, B, by omega, by omega, fun v H5 v0 v1 c5 B => ?_⟩
  have bv := limb_bd v0 v1 (by omega)
  walk_at "go"
  refine ⟨u, 1 + v, rfl, by omega, ?_, fun a n d H6 lo c6 fr => ?_⟩
  · exact Nat.lt_of_lt_of_le (show (1 + v).natAbs < 10 ^ 91 by omega) (by decide +kernel)
  · have hn := lo.ln
    have hd := lo.ld
    exact q a n d H6 (by rcases eu with e | e <;> rw [e] at hn <;> omega) (by omega) (((((c1.trans c2).trans c3).trans c4).trans c5).trans0 c6) (B.mono c6) fr
abbrev s__law_sign : Stmt := topS 46
theorem sc__law_sign : FnScope ["box", "signs"] ["box"] (defScope s__law_sign) := ⟨rfl, rfl, rfl, by decide +kernel, rfl, by decide +kernel, by decide +kernel⟩
def sp__law_sign : Sp := fun vs H Q _ => ∃ (b : Addr), vs = [.ref b] ∧ RB H b ∧ ∀ (x : Str) H', x.length = 1 → Ch [b] H H' → RB H' b → Q (.str x) H'
theorem str_at {x : Str} {r : Int} {n : Nat} (hx : x.length = n) (h0 : 0 ≤ r) (h1 : r < n) : ∃ c, atI x.cps.toList r = some c := by
  have e : x.cps.toList.length = n := by rw [Array.length_toList]; exact hx
  exact ⟨_, by rw [show r = ((r.toNat : Nat) : Int) by omega]; exact atI_nat (List.getElem?_eq_getElem (by rw [e]; omega))⟩
theorem c__law_sign (C__law_take : Cal P w K mg base 1 "_law_take" sp__law_take) {f : Addr} {fd : FuncData} (F : DefF K mg "_law_sign" s__law_sign ["box"] f fd) : Cal P w K mg base 2 "_law_sign" sp__law_sign := by
  refine cal_of F sc__law_sign (fun vs H Q E h => by obtain ⟨_, rfl, _⟩ := h; rfl) (fun cdv A outer s H vs Q E hr h => ?_)
  obtain ⟨b, rfl, B, q⟩ := h
  refine ⟨_, (pss_cons (ps_if (pt_cmpR op_eq (pe_cc C__law_take hr (by decide) (by rfl) (pa_cons (pv 0) (pa_cons pe_int pa_nil))) pe_int (nomark _)) (pss_one (ps_ret (pe_ix ix_str pe_str (pe_cc C__law_take hr (by decide) (by rfl) (pa_cons (pv 0) (pa_cons pe_int pa_nil))) (fun _ _ => rfl)))) pss_nil)
 (pss_cons (ps_set (i := 1) sc__law_sign.nd rfl (Or.inl rfl) pe_str)
 (pss_cons (ps_set (i := 1) sc__law_sign.nd rfl (Or.inl rfl) (pe_op op_addS (pv 1) pe_str))
 (pss_one (ps_ret (pe_ix ix_str (pv 1) (pe_cc C__law_take hr (by decide) (by rfl) (pa_cons (pv 0) (pa_cons pe_int pa_nil))) (fun _ _ => rfl))))))), ?_⟩
  refine w_start (σ := [some _, none]) rfl ?_
  walk_at "go"
  refine ⟨b, 2, rfl, B, by decide, by decide +kernel, fun k1 H1 a0 a1 c1 B => ?_⟩
  walk_at "go"
  refine ite_d (fun h0 => ?_) (fun h0 => ?_)
  · walk_at "go"
    refine ⟨b, 16, rfl, B, by decide, by decide +kernel, fun r H2 r0 r1 c2 B => ?_⟩
    obtain ⟨c, hc⟩ := str_at (x := "0123456789/-+ ._") (n := 16) (by decide +kernel) r0 r1
    refine w_ixS (by decide +kernel) hc ?_
    exact q _ _ rfl (c1.trans c2) B
  · walk_at "go"
    refine ⟨b, 94, rfl, B, by decide, by decide +kernel, fun r H2 r0 r1 c2 B => ?_⟩
    obtain ⟨c, hc⟩ := str_at (x := Str.ofString " !\"#$&'()*+,-./0123456789:;<=>?@ABCDEFGHIJKLMNOPQRSTUVWXYZ[\\]^_`" ++ Str.ofString "abcdefghijklmnopqrstuvwxyz{|}~") (n := 94) (by simp only [PySem.Str.length_append, lenlit]) r0 r1
    refine w_ixS (sz_le (by simp only [PySem.Str.length_append, lenlit]; omega)) hc ?_
    exact q _ _ rfl (c1.trans c2) B
end
end My
namespace My
open PySem PySem.Spec PyProof.Rows L2
open SX (S S_cat S_len S_tl S_inj)
open TL (numL tl)
open PySem.NumText (AllDigits digitsVal)
section
variable {P : Program} {w : World} {K : PySem.W.Frag} {mg : Str → Option Value} {base : Heap}
abbrev s__law_bent : Stmt := topS 47
theorem sc__law_bent : FnScope ["box", "text", "place", "way"] ["box", "text"] (defScope s__law_bent) := ⟨rfl, rfl, rfl, by decide +kernel, rfl, by decide +kernel, by decide +kernel⟩
def sp__law_bent : Sp := fun vs H Q _ => ∃ (b : Addr) (x : Str), vs = [.ref b, .str x] ∧ RB H b ∧ x.length ≤ 400 ∧ ∀ (y : Str) H', y.length ≤ x.length + 2 → Ch [b] H H' → RB H' b → Q (.str y) H'
theorem c__law_bent (T : Txt mg) (C__law_take : Cal P w K mg base 1 "_law_take" sp__law_take) (C__law_sign : Cal P w K mg base 2 "_law_sign" sp__law_sign) {f : Addr} {fd : FuncData} (F : DefF K mg "_law_bent" s__law_bent ["box", "text"] f fd) : Cal P w K mg base 3 "_law_bent" sp__law_bent := by
  refine cal_of F sc__law_bent (fun vs H Q E h => by obtain ⟨_, _, rfl, _⟩ := h; rfl) (fun cdv A outer s H vs Q E hr h => ?_)
  obtain ⟨b, x, rfl, B, lx, q⟩ := h
  refine ⟨_, (pss_cons (ps_set (i := 2) sc__law_bent.nd rfl (Or.inl rfl) (pe_cc C__law_take hr (by decide) (by rfl) (pa_cons (pv 0) (pa_cons (pe_op op_add (pe_callB cb_lenS (by rfl) T.z_len PySem.boot_len (pa_cons (pv 1) pa_nil)) pe_int) pa_nil))))
 (pss_cons (ps_set (i := 3) sc__law_bent.nd rfl (Or.inl rfl) (pe_cc C__law_take hr (by decide) (by rfl) (pa_cons (pv 0) (pa_cons pe_int pa_nil))))
 (pss_cons (ps_if (pt_cmpR op_eq (pv 3) pe_int (nomark _)) (pss_one (ps_ret (pe_op op_addS (pe_slice sl_str (pv 1) po_none (po_some (pv 2))) (pe_slice sl_str (pv 1) (po_some (pe_op op_add (pv 2) pe_int)) po_none)))) pss_nil)
 (pss_cons (ps_if (pt_cmpR op_eq (pv 3) pe_int (nomark _)) (pss_one (ps_ret (pe_op op_addS (pe_op op_addS (pe_slice sl_str (pv 1) po_none (po_some (pv 2))) (pe_slice sl_str (pv 1) (po_some (pv 2)) (po_some (pe_op op_add (pv 2) pe_int)))) (pe_slice sl_str (pv 1) (po_some (pv 2)) po_none)))) pss_nil)
 (pss_cons (ps_if (pt_cmpR op_eq (pv 3) pe_int (nomark _)) (pss_one (ps_ret (pe_op op_addS (pe_op op_addS (pe_op op_addS (pe_slice sl_str (pv 1) po_none (po_some (pv 2))) (pe_slice sl_str (pv 1) (po_some (pe_op op_add (pv 2) pe_int)) (po_some (pe_op op_add (pv 2) pe_int)))) (pe_slice sl_str (pv 1) (po_some (pv 2)) (po_some (pe_op op_add (pv 2) pe_int)))) (pe_slice sl_str (pv 1) (po_some (pe_op op_add (pv 2) pe_int)) po_none)))) pss_nil)
 (pss_cons (ps_if (pt_cmpR op_eq (pv 3) pe_int (nomark _)) (pss_one (ps_ret (pe_op op_addS (pe_op op_addS (pe_slice sl_str (pv 1) po_none (po_some (pv 2))) (pe_cc C__law_sign hr (by decide) (by rfl) (pa_cons (pv 0) pa_nil))) (pe_slice sl_str (pv 1) (po_some (pe_op op_add (pv 2) pe_int)) po_none)))) pss_nil)
 (pss_one (ps_ret (pe_op op_addS (pe_op op_addS (pe_slice sl_str (pv 1) po_none (po_some (pv 2))) (pe_cc C__law_sign hr (by decide) (by rfl) (pa_cons (pv 0) pa_nil))) (pe_slice sl_str (pv 1) (po_some (pv 2)) po_none)))))))))), ?_⟩
  refine w_start (σ := [some _, some _, none, none]) rfl ?_
  have zx : x.length ≤ sizeLine := sz_le (by omega)
  walk_at "go"
  refine ⟨b, _, rfl, B, by omega, ?_, fun pl H1 p0 p1 c1 B => ?_⟩
  · exact Nat.lt_of_lt_of_le (show ((x.length : Int) + 1).natAbs < 512 by omega) (by decide +kernel)
  walk_at "go"
  refine ⟨b, 5, rfl, B, by decide, by decide +kernel, fun way H2 w0 w1 c2 B => ?_⟩
  have c := c1.trans c2
  have a1 := cut_to_len (x := x) p0
  have a2 := cut_from_len (x := x) (i := pl + 1) (by omega)
  have a3 := cut_mid_len (x := x) (i := pl) (j := pl + 1) p0 (by omega)
  have a4 := cut_from_len (x := x) (i := pl) p0
  have a5 := cut_mid_len (x := x) (i := pl + 1) (j := pl + 2) (by omega) (by omega)
  have a6 := cut_from_len (x := x) (i := pl + 2) (by omega)
  walk_at "go"
  refine ite_d (fun h0 => ?_) (fun h0 => ?_)
  · walk_at "go"
    exact q _ _ (by rw [PySem.Str.length_append]; omega) c B
  walk_at "go"
  refine ite_d (fun h1 => ?_) (fun h1 => ?_)
  · walk_at "go"
    exact q _ _ (by rw [PySem.Str.length_append, PySem.Str.length_append]; omega) c B
  walk_at "go"
  refine ite_d (fun h2 => ?_) (fun h2 => ?_)
  · walk_at "go"
    exact q _ _ (by rw [PySem.Str.length_append, PySem.Str.length_append, PySem.Str.length_append]; omega) c B
  walk_at "go"
  refine ite_d (fun h3 => ?_) (fun h3 => ?_)
  · walk_at "go"
    refine ⟨b, rfl, B, fun y H3 ly c3 B => ?_⟩
    walk_at "go"
    exact q _ _ (by rw [PySem.Str.length_append, PySem.Str.length_append]; omega) (c.trans c3) B
  walk_at "go"
  refine ⟨b, rfl, B, fun y H3 ly c3 B => ?_⟩
  walk_at "go"
  exact q _ _ (by rw [PySem.Str.length_append, PySem.Str.length_append]; omega) (c.trans c3) B
abbrev s__law_texts_hold : Stmt := topS 49
theorem sc__law_texts_hold : FnScope ["box", "a", "text", "turn"] ["box"] (defScope s__law_texts_hold) := ⟨rfl, rfl, rfl, by decide +kernel, rfl, by decide +kernel, by decide +kernel⟩
def sp__law_texts_hold : Sp := fun vs H Q _ => ∃ (b : Addr), vs = [.ref b] ∧ RB H b ∧ ∀ H', Ch [b] H H' → RB H' b → Q (.bl true) H'
theorem c__law_texts_hold (T : Txt mg) (C__law_number : Cal P w K mg base 4 "_law_number" (sp__law_number K)) (C__law_writing_holds : Cal P w K mg base 5 "_law_writing_holds" (sp__law_writing_holds K)) (C__law_wrong_texts : Cal P w K mg base 2 "_law_wrong_texts" (sp__law_wrong_texts K)) (C__law_text_holds : Cal P w K mg base 5 "_law_text_holds" sp__law_text_holds)
    (C__law_text : Cal P w K mg base 1 "_law_text" (sp_write_fraction K)) (C__law_long_fraction : Cal P w K mg base 3 "_law_long_fraction" (sp__law_long_fraction K)) (C__law_bent : Cal P w K mg base 3 "_law_bent" sp__law_bent) {f : Addr} {fd : FuncData} (F : DefF K mg "_law_texts_hold" s__law_texts_hold ["box"] f fd) : Cal P w K mg base 6 "_law_texts_hold" sp__law_texts_hold := by
  refine cal_of F sc__law_texts_hold (fun vs H Q E h => by obtain ⟨_, rfl, _⟩ := h; rfl) (fun cdv A outer s H vs Q E hr h => ?_)
  obtain ⟨b, rfl, B, q⟩ := h
  refine ⟨_, (pss_cons (ps_set (i := 1) sc__law_texts_hold.nd rfl (Or.inl rfl) (pe_cc C__law_number hr (by decide) (by rfl) (pa_cons (pv 0) pa_nil)))
 (pss_cons (ps_if (PW.pt (pw_or (pt_not (pt_val (pe_cc C__law_writing_holds hr (by decide) (by rfl) (pa_cons (pv 1) pa_nil)))) (pw_or1 (pt_not (pt_val (pe_cc C__law_writing_holds hr (by decide) (by rfl) (pa_cons (pe_tup (pa_cons (pe_un un_neg (pe_ix (k_ixT (K := K) rfl) (pv 1) pe_int (fun _ _ => rfl))) (pa_cons (pe_ix (k_ixT (K := K) rfl) (pv 1) pe_int (fun _ _ => rfl)) pa_nil))) pa_nil))))))) (pss_one (ps_ret pe_bl)) pss_nil)
 (pss_cons (ps_for PassesOwn.never rfl (k_piL (K := K) rfl (pe_cc C__law_wrong_texts hr (by decide) (by rfl) (pa_cons (pv 1) pa_nil))) (pg_name (i := 2) sc__law_texts_hold.nd rfl (Or.inl rfl)) (pss_one (ps_if (pt_not (pt_val (pe_cc C__law_text_holds hr (by decide) (by rfl) (pa_cons (pv 2) pa_nil)))) (pss_one (ps_ret pe_bl)) pss_nil)))
 (pss_cons (ps_set (i := 2) sc__law_texts_hold.nd rfl (Or.inl rfl) (pe_cc C__law_text hr (by decide) (by rfl) (pa_cons (pe_cc C__law_long_fraction hr (by decide) (by rfl) (pa_cons (pv 0) pa_nil)) pa_nil)))
 (pss_cons (ps_if (PW.pt (pw_or (pt_not (pt_val (pe_cc C__law_text_holds hr (by decide) (by rfl) (pa_cons (pv 2) pa_nil)))) (pw_or1 (pt_not (pt_val (pe_cc C__law_text_holds hr (by decide) (by rfl) (pa_cons (pe_cc C__law_bent hr (by decide) (by rfl) (pa_cons (pv 0) (pa_cons (pv 2) pa_nil))) pa_nil))))))) (pss_one (ps_ret pe_bl)) pss_nil)
 (pss_cons (ps_for PassesOwn.never rfl (pi_range1 (by rfl) T.z_range (pa_cons pe_int pa_nil)) (pg_name (i := 3) sc__law_texts_hold.nd rfl (Or.inl rfl)) (pss_one (ps_if (pt_not (pt_val (pe_cc C__law_text_holds hr (by decide) (by rfl) (pa_cons (pe_cc C__law_bent hr (by decide) (by rfl) (pa_cons (pv 0) (pa_cons (pe_cc C__law_text hr (by decide) (by rfl) (pa_cons (pv 1) pa_nil)) pa_nil))) pa_nil)))) (pss_one (ps_ret pe_bl)) pss_nil)))
 (pss_one (ps_ret pe_bl)))))))), ?_⟩
  refine w_start (σ := [some _, none, none, none]) rfl ?_
  walk_at "go"
  refine ⟨b, rfl, B, fun a n d H1 N c1 B fa => ?_⟩
  have bn : n.natAbs < 2 ^ 1900 := abs_mono N.bn (by decide)
  have bd : d.natAbs < 2 ^ 1900 := abs_mono N.bd (by decide)
  have l0 : (S (fracL n d)).length ≤ 185 := by rw [S_len]; exact fracL_len (pow2_10 N.bn) (pow2_10 N.bd)
  walk_at "go"
  refine ⟨a, n, d, rfl, fa, N, fun H2 c2 => ?_⟩
  have c := c1.trans0 c2
  have B := B.mono c2
  have fa := c2.sqT fa
  walk_at "go"
  refine ite_f ?_
  walk_at "go"
  refine w_newT (show 2 ≤ sizeLine by decide) fun t H3 n3 c3 h3 => ?_
  walk_at "go"
  refine ⟨t, -n, d, rfl, .of h3, ⟨N.pos, by rw [Int.natAbs_neg]; exact N.cop, by rw [Int.natAbs_neg]; exact N.b1, N.b2⟩, fun H4 c4 => ?_⟩
  have c := (c.trans0 c3).trans0 c4
  have B := (B.mono c3).mono c4
  have fa := c4.sqT (c3.sqT fa)
  walk_at "go"
  refine ite_f ?_
  walk_at "go"
  refine ⟨a, n, d, rfl, fa, N, fun ts H5 xs c5 h5 sb => ?_⟩
  have c := c.trans0 c5
  have B := B.mono c5
  have fa := c5.sqT fa
  walk_at "go"
  refine w_iLr (.of h5) ?_
  refine for_Lx (a := ts) (xs := xs) (fun i σ H' => Ch [] H5 H' ∧ ∃ z, σ = [some (.ref b), some (.ref a), z, none]) ⟨.refl, none, rfl⟩ (fun i σ H' hp => .of (hp.1.at0 h5)) ?_ ?_
  · rintro i x σ H' hx ⟨c6, z, rfl⟩
    obtain ⟨y, rfl, ly⟩ := sb x (List.mem_of_getElem? hx)
    walk_at "go"
    refine ⟨y, rfl, ly, fun H7 c7 => ?_⟩
    walk_at "go"
    refine ite_f ?_
    exact ⟨c6.trans c7, _, rfl⟩
  rintro σ H6 ⟨c6, z, rfl⟩
  have c := c.trans0 c6
  have B := B.mono c6
  have fa := c6.sqT fa
  walk_at "go"
  refine ⟨b, rfl, B, fun e m k H7 bm bk c7 B f7 => ?_⟩
  have c := c.trans c7
  have fa := c7.sqT fa
  have l1 : (S (fracL m k)).length ≤ 185 := by rw [S_len]; exact fracL_len bm bk
  have up : ∀ {x : Nat}, x < 10 ^ 91 → x < 2 ^ 1900 := fun h => Nat.lt_of_lt_of_le h (by decide +kernel)
  walk_at "go"
  refine ⟨e, m, k, rfl, f7, up bm, up bk, ?_⟩
  walk_at "go"
  refine ⟨_, rfl, by omega, fun H8 c8 => ?_⟩
  have c := c.trans0 c8
  have B := B.mono c8
  have fa := c8.sqT fa
  walk_at "go"
  refine ite_f ?_
  walk_at "go"
  refine ⟨b, _, rfl, B, by omega, fun y H9 ly c9 B => ?_⟩
  have c := c.trans c9
  have fa := c9.sqT fa
  walk_at "go"
  refine ⟨y, rfl, by omega, fun H10 c10 => ?_⟩
  have c := c.trans0 c10
  have B := B.mono c10
  have fa := c10.sqT fa
  walk_at "go"
  refine ite_f ?_
  walk_at "go"
  refine w_iR1r (by decide) (by decide) ?_
  refine for_R (n := 3) (fun i σ H' => Ch [b] H H' ∧ RB H' b ∧ Fr K H' a n d ∧ ∃ z y, σ = [some (.ref b), some (.ref a), z, y]) ⟨c, B, fa, _, none, rfl⟩ ?_ ?_
  · rintro i σ H11 hi ⟨c, B, fa, z, y, rfl⟩
    walk_at "go"
    refine ⟨a, n, d, rfl, fa, bn, bd, ?_⟩
    walk_at "go"
    refine ⟨b, _, rfl, B, by omega, fun y H12 ly c12 B => ?_⟩
    walk_at "go"
    refine ⟨y, rfl, by omega, fun H13 c13 => ?_⟩
    walk_at "go"
    refine ite_f ?_
    exact ⟨(c.trans c12).trans0 c13, B.mono c13, c13.sqT (c12.sqT fa), _, _, rfl⟩
  rintro σ H11 ⟨c, B, fa, z, y, rfl⟩
  walk_at "go"
  exact q _ c B
end
end My
namespace My
open PySem PySem.Spec PyProof.Rows L2
open SX (S S_cat S_len S_tl S_inj)
open TL (numL tl)
open PySem.NumText (AllDigits digitsVal)
/-! ### the text of a decimal, taken apart -/
def dbody (n d : Int) (p : Nat) : List Nat := numL ((many n d p).natAbs / 10 ^ p) ++ (if p = 0 then [] else 46 :: zf p ((many n d p).natAbs % 10 ^ p))
theorem decL_eq (n d : Int) (p : Nat) : decL n d p = (if many n d p < 0 then [45] else []) ++ dbody n d p := rfl
theorem decL_take (n d : Int) (p : Nat) : decide ((decL n d p).take 1 = [45]) = decide (many n d p < 0) := by
  rw [decL_eq]
  by_cases h : many n d p < 0
  · rw [if_pos h, decide_eq_true h]
    rfl
  · rw [if_neg h, decide_eq_false h, List.nil_append]
    unfold dbody
    obtain ⟨c, r, e⟩ := List.exists_cons_of_ne_nil (TL.numL_ne ((many n d p).natAbs / 10 ^ p))
    have dg := TL.numL_digits ((many n d p).natAbs / 10 ^ p) c (by rw [e]; simp)
    rw [e]
    refine decide_eq_false fun z => ?_
    have : [c] = [45] := z
    simp at this
    omega
theorem decL_drop {n d : Int} {p : Nat} (h : many n d p < 0) : (decL n d p).drop 1 = dbody n d p := by
  rw [decL_eq, if_pos h]
  rfl
theorem decL_pos {n d : Int} {p : Nat} (h : ¬ many n d p < 0) : decL n d p = dbody n d p := by
  rw [decL_eq, if_neg h]
  rfl
theorem dot_free (x : Nat) : 46 ∉ numL x := TL.numL_free (.inl (by decide))
theorem split0 (n d : Int) : Txt.split (S (dbody n d 0)) (S [46]) = [numL ((many n d 0).natAbs / 10 ^ 0)].map S := by
  unfold dbody
  rw [if_pos rfl, List.append_nil, SX.split_S (by simp) (by decide), TL.spl_last1 (dot_free _)]
  rfl
theorem split1 {n d : Int} {p : Nat} (hp : p ≠ 0) : Txt.split (S (dbody n d p)) (S [46]) = [numL ((many n d p).natAbs / 10 ^ p), zf p ((many n d p).natAbs % 10 ^ p)].map S := by
  unfold dbody
  rw [if_neg hp, SX.split_S (by simp) (by decide)]
  have h := TL.spl_part1 (s := 46) (S := []) (rest := zf p ((many n d p).natAbs % 10 ^ p)) (acc := []) (dot_free ((many n d p).natAbs / 10 ^ p))
  rw [show numL ((many n d p).natAbs / 10 ^ p) ++ (46 :: zf p ((many n d p).natAbs % 10 ^ p)) = numL ((many n d p).natAbs / 10 ^ p) ++ ([46] ++ zf p ((many n d p).natAbs % 10 ^ p)) from rfl, h, TL.spl_last1 (fun z => by
    have := zf_dig p _ 46 z
    omega)]
  rfl
theorem plain_one {l : List Nat} (h : AllDigits l) : plainB (49 :: l) = true := by
  refine plainB_iff.mpr ⟨fun c hc => ?_, .inr ⟨49, l, rfl, by decide⟩⟩
  rcases List.mem_cons.mp hc with e | e
  · omega
  · exact h c e
section
variable {P : Program} {w : World} {K : PySem.W.Frag} {mg : Str → Option Value} {base : Heap}
abbrev s__law_places : Stmt := topS 37
theorem sc__law_places : FnScope ["box", "way"] ["box"] (defScope s__law_places) := ⟨rfl, rfl, rfl, by decide +kernel, rfl, by decide +kernel, by decide +kernel⟩
def sp__law_places : Sp := fun vs H Q _ => ∃ (b : Addr), vs = [.ref b] ∧ RB H b ∧ ∀ (z : Int) H', 0 ≤ z → z ≤ 60 → Ch [b] H H' → RB H' b → Q (.int z) H'
theorem c__law_places (C__law_take : Cal P w K mg base 1 "_law_take" sp__law_take) {f : Addr} {fd : FuncData} (F : DefF K mg "_law_places" s__law_places ["box"] f fd) : Cal P w K mg base 2 "_law_places" sp__law_places := by
  refine cal_of F sc__law_places (fun vs H Q E h => by obtain ⟨_, rfl, _⟩ := h; rfl) (fun cdv A outer s H vs Q E hr h => ?_)
  obtain ⟨b, rfl, B, q⟩ := h
  refine ⟨_, (pss_cons (ps_set (i := 1) sc__law_places.nd rfl (Or.inl rfl) (pe_cc C__law_take hr (by decide) (by rfl) (pa_cons (pv 0) (pa_cons pe_int pa_nil))))
 (pss_cons (ps_if (pt_cmpR op_lt (pv 1) pe_int (nomark _)) (pss_one (ps_ret (pe_ix (k_ixL (K := K) rfl) (pe_lst (pa_cons pe_int (pa_cons pe_int (pa_cons pe_int pa_nil)))) (pv 1) (fun _ _ => rfl)))) pss_nil)
 (pss_cons (ps_if (pt_cmpR op_eq (pv 1) pe_int (nomark _)) (pss_one (ps_ret (pe_cc C__law_take hr (by decide) (by rfl) (pa_cons (pv 0) (pa_cons pe_int pa_nil))))) pss_nil)
 (pss_one (ps_ret (pe_cc C__law_take hr (by decide) (by rfl) (pa_cons (pv 0) (pa_cons pe_int pa_nil)))))))), ?_⟩
  refine w_start (σ := [some _, none]) rfl ?_
  walk_at "go"
  refine ⟨b, 6, rfl, B, by decide, by decide +kernel, fun way H1 w0 w1 c1 B => ?_⟩
  walk_at "go"
  refine ite_d (fun h0 => ?_) (fun h0 => ?_)
  · walk_at "go"
    refine w_newL (show 3 ≤ sizeLine by decide) fun l H2 n2 c2 h2 => ?_
    obtain ⟨v, v0, v1, hv⟩ : ∃ v : Int, 0 ≤ v ∧ v ≤ 60 ∧ atI [V.int 0, .int 1, .int 60] way = some (.int v) := by
      have h : way = 0 ∨ way = 1 ∨ way = 2 := by omega
      rcases h with h | h | h <;> subst h
      · exact ⟨0, by decide, by decide, rfl⟩
      · exact ⟨1, by decide, by decide, rfl⟩
      · exact ⟨60, by decide, by decide, rfl⟩
    walk_at "go"
    refine w_ixL (.of h2) hv ?_
    exact q v H2 v0 v1 (c1.trans0 c2) (B.mono c2)
  walk_at "go"
  refine ite_d (fun h1 => ?_) (fun h1 => ?_)
  · walk_at "go"
    refine ⟨b, 6, rfl, B, by decide, by decide +kernel, fun r H2 r0 r1 c2 B => ?_⟩
    exact q r H2 r0 (by omega) (c1.trans c2) B
  walk_at "go"
  refine ⟨b, 61, rfl, B, by decide, by decide +kernel, fun r H2 r0 r1 c2 B => ?_⟩
  exact q r H2 r0 (by omega) (c1.trans c2) B
abbrev s__law_decimal_holds : Stmt := topS 39
theorem sc__law_decimal_holds : FnScope ["a", "places", "told", "rest", "halves", "many", "scale"] ["a", "places"] (defScope s__law_decimal_holds) := ⟨rfl, rfl, rfl, by decide +kernel, rfl, by decide +kernel, by decide +kernel⟩
def sp__law_decimal_holds (K : PySem.W.Frag) : Sp := fun vs H Q _ => ∃ (a : Addr) (n d z : Int) (p : Nat), vs = [.ref a, .int z] ∧ z = (p : Int) ∧ p ≤ 61 ∧ Fr K H a n d ∧ 0 < d ∧ n.natAbs < 2 ^ 300 ∧ d.natAbs < 2 ^ 300 ∧ ∀ H', Ch [] H H' → Q (.bl true) H'
theorem c__law_decimal_holds (T : Txt mg) (z_str : mg "str" = none) (C_decimal : Cal P w K mg base 3 "decimal" (sp_decimal K)) (C__law_figures : Cal P w K mg base 1 "_law_figures" sp__law_figures) (C__law_power : Cal P w K mg base 1 "_law_power" sp__law_power) {f : Addr} {fd : FuncData} (F : DefF K mg "_law_decimal_holds" s__law_decimal_holds ["a", "places"] f fd) : Cal P w K mg base 4 "_law_decimal_holds" (sp__law_decimal_holds K) := by
  refine cal_of F sc__law_decimal_holds (fun vs H Q E h => by obtain ⟨_, _, _, _, _, rfl, _⟩ := h; rfl) (fun cdv A outer s H vs Q E hr h => ?_)
  obtain ⟨a, n, d, _, p, rfl, rfl, hp, fa, d0, bn, bd, q⟩ := h
  refine ⟨_, (pss_cons (ps_set (i := 2) sc__law_decimal_holds.nd rfl (Or.inl rfl) (pe_cc C_decimal hr (by decide) (by rfl) (pa_cons (pv 0) (pa_cons (pv 1) pa_nil))))
 (pss_cons (ps_if (PW.pt (pw_or (pt_not (pt_val (pe_callB (k_isi (K := K) rfl) (by rfl) T.z_isinstance (by decide +kernel) (pa_cons (pv 2) (pa_cons (pe_bltn (by rfl) z_str (by decide +kernel) (v := .ty "str") rfl) pa_nil))))) (pw_or1 (pt_cmpR op_gt (pe_callB cb_lenS (by rfl) T.z_len PySem.boot_len (pa_cons (pv 2) pa_nil)) pe_int (nomark _))))) (pss_one (ps_ret pe_bl)) pss_nil)
 (pss_cons (ps_set (i := 3) sc__law_decimal_holds.nd rfl (Or.inl rfl) (pv 2))
 (Evl.pss_cut (ps_if (pt_cmpR op_eq (pe_slice sl_str (pv 2) po_none (po_some pe_int)) pe_str (nomark _)) (pss_one (ps_set (i := 3) sc__law_decimal_holds.nd rfl (Or.inl rfl) (pe_slice sl_str (pv 2) (po_some pe_int) po_none))) pss_nil)
 (pss_cons (ps_set (i := 4) sc__law_decimal_holds.nd rfl (Or.inl rfl) (pe_bm PySem.F.plainAttrs_str PySem.F.slot_str_split PySem.F.type_str_split mt_splitS (pv 3) (pa_cons pe_str pa_nil)))
 (pss_cons (ps_if (PW.pt (pw_or (pt_cmpR op_ne (pe_callB (k_len (K := K) rfl) (by rfl) T.z_len PySem.boot_len (pa_cons (pv 4) pa_nil)) (pe_op op_add pe_int (pe_callTy cb_int (by rfl) T.z_int (by decide +kernel) (pa_cons (pe_cmpR op_gt (pv 1) pe_int (nomark _)) pa_nil))) (nomark _)) (pw_or1 (pt_not (pt_val (pe_cc C__law_figures hr (by decide) (by rfl) (pa_cons (pe_ix (k_ixL (K := K) rfl) (pv 4) pe_int (fun _ _ => rfl)) pa_nil))))))) (pss_one (ps_ret pe_bl)) pss_nil)
 (pss_cons (ps_if (PW.pt (pw_and (pt_cmpR op_gt (pv 1) pe_int (nomark _)) (pw_and1 (PW.pt (pw_or (pt_cmpR op_ne (pe_callB cb_lenS (by rfl) T.z_len PySem.boot_len (pa_cons (pe_ix (k_ixL (K := K) rfl) (pv 4) pe_int (fun _ _ => rfl)) pa_nil)) (pv 1) (nomark _)) (pw_or1 (pt_not (pt_val (pe_cc C__law_figures hr (by decide) (by rfl) (pa_cons (pe_op op_addS pe_str (pe_ix (k_ixL (K := K) rfl) (pv 4) pe_int (fun _ _ => rfl))) pa_nil)))))))))) (pss_one (ps_ret pe_bl)) pss_nil)
 (pss_cons (ps_set (i := 5) sc__law_decimal_holds.nd rfl (Or.inl rfl) (pe_callTy cb_intS (by rfl) T.z_int (by decide +kernel) (pa_cons (pe_bm PySem.F.plainAttrs_str PySem.F.slot_str_join PySem.F.type_str_join (k_join (K := K) rfl) pe_str (pa_cons (pv 4) pa_nil)) pa_nil)))
 (Evl.pss_cut (ps_if (pt_cmpR op_eq (pe_slice sl_str (pv 2) po_none (po_some pe_int)) pe_str (nomark _)) (pss_cons (ps_if (pt_cmpR op_eq (pv 5) pe_int (nomark _)) (pss_one (ps_ret pe_bl)) pss_nil)
 (pss_one (ps_set (i := 5) sc__law_decimal_holds.nd rfl (Or.inl rfl) (pe_un un_neg (pv 5))))) pss_nil)
 (pss_cons (ps_set (i := 6) sc__law_decimal_holds.nd rfl (Or.inl rfl) (pe_cc C__law_power hr (by decide) (by rfl) (pa_cons pe_int (pa_cons (pv 1) pa_nil))))
 (pss_one (ps_ret (pe_and (pe_cmpR op_le (pe_op op_mulG (pv 5) (pe_ix (k_ixT (K := K) rfl) (pv 0) pe_int (fun _ _ => rfl))) (pe_op op_mulG (pe_ix (k_ixT (K := K) rfl) (pv 0) pe_int (fun _ _ => rfl)) (pv 6)) (nomark _)) (pe_one (pe_cmpR op_lt (pe_op op_mulG (pe_ix (k_ixT (K := K) rfl) (pv 0) pe_int (fun _ _ => rfl)) (pv 6)) (pe_op op_mulG (pe_op op_add (pv 5) pe_int) (pe_ix (k_ixT (K := K) rfl) (pv 0) pe_int (fun _ _ => rfl))) (nomark _)))))))))))))))), ?_⟩
  refine w_start (σ := [some _, some _, none, none, none, none, none]) rfl ?_
  have ld := decL_len (n := n) d0 bn hp
  have lm := many_bd (n := n) (p := p) d0 bn (by omega)
  have lw : (many n d p).natAbs / 10 ^ p < 10 ^ 170 := Nat.lt_of_le_of_lt (Nat.div_le_self _ _) lm
  have lr := Nat.mod_lt (many n d p).natAbs (Nat.pow_pos (n := p) (show 0 < 10 by decide))
  have l1 : (numL ((many n d p).natAbs / 10 ^ p)).length ≤ 170 := TL.numL_len (by decide) lw
  have lb : (dbody n d p).length ≤ 200 := by
    have := congrArg List.length (decL_eq n d p)
    rw [List.length_append] at this
    omega
  walk_at "go"
  refine ⟨a, n, d, _, p, rfl, rfl, hp, fa, d0, bn, bd, fun H1 c1 => ?_⟩
  walk_at "go"
  refine w_isiSS ?_
  walk_at "go"
  refine ite_f ?_
  walk_at "go"
  rw [S_len, decide_eq_false (by omega)]
  refine ite_f ?_
  walk_at "go"
  refine w_cut (M := fun σ' H' => H' = H1 ∧ σ' = [some (.ref a), some (.int (p : Int)), some (.str (S (decL n d p))), some (.str (S (dbody n d p))), none, none, none]) ?_ ?_
  · walk_at "go"
    rw [cut_to (by decide), lit_minus, S_eq, show (decL n d p).take (Int.toNat 1) = (decL n d p).take 1 from rfl, decL_take]
    refine ite_d (fun h => ?_) (fun h => ?_)
    · walk_at "go"
      rw [cut_from (by decide), show (decL n d p).drop (Int.toNat 1) = (decL n d p).drop 1 from rfl, decL_drop h]
      exact ⟨rfl, rfl⟩
    · walk_at "go"
      refine ⟨rfl, ?_⟩
      rw [decL_pos h]
      rfl
  rintro σ' H' ⟨rfl, rfl⟩
  walk_at "go"
  rw [lit_dot]
  refine w_split (show (1 == 0) = false from rfl) (sz_le (by rw [S_len]; omega)) fun ha H2 n2 c2 h2 => ?_
  by_cases z : p = 0
  · subst z
    rw [split0] at h2
    have h2 : H2 ha = some (.lst [.str (S (numL ((many n d 0).natAbs / 10 ^ 0)))]) := h2
    walk_at "go"
    refine w_lenL (.of h2) ?_
    walk_at "go"
    refine ite_f ?_
    walk_at "go"
    refine ⟨_, rfl, by omega, ?_⟩
    rw [plainB_iff.mpr (numL_plain _)]
    walk_at "go"
    refine ite_f ?_
    walk_at "go"
    refine ite_f ?_
    refine ite_f ?_
    walk_at "go"
    refine w_join (ys := [S (numL ((many n d 0).natAbs / 10 ^ 0))]) (.of h2) ?_ ?_
    · simp only [List.map_cons, List.map_nil, List.sum_cons, List.sum_nil, S_len, lenlit, List.length_cons, List.length_nil]
      omega
    rw [lit_empty, show ([S (numL ((many n d 0).natAbs / 10 ^ 0))] : List Str) = [numL ((many n d 0).natAbs / 10 ^ 0)].map S from rfl, SX.join_S, show TL.joinL [] [numL ((many n d 0).natAbs / 10 ^ 0)] = numL ((many n d 0).natAbs / 10 ^ 0) from rfl]
    walk_at "go"
    refine w_intD (l := numL ((many n d 0).natAbs / 10 ^ 0)) (TL.numL_digits _) (TL.numL_ne _) (by omega) ?_
    rw [show dv (numL ((many n d 0).natAbs / 10 ^ 0)) = (many n d 0).natAbs by rw [show dv (numL ((many n d 0).natAbs / 10 ^ 0)) = _ from TL.numL_val _, Nat.pow_zero, Nat.div_one]]
    walk_at "go"
    refine w_cut (M := fun σ' H' => H' = H2 ∧ σ' = [some (.ref a), some (.int ((0 : Nat) : Int)), some (.str (S (decL n d 0))), some (.str (S (dbody n d 0))), some (.ref ha), some (.int (many n d 0)), none]) ?_ ?_
    · walk_at "go"
      rw [cut_to (by decide), lit_minus, S_eq, show (decL n d 0).take (Int.toNat 1) = (decL n d 0).take 1 from rfl, decL_take]
      refine ite_d (fun h => ?_) (fun h => ?_)
      · walk_at "go"
        refine ite_d (fun h5 => ?_) (fun h5 => ?_)
        · exact absurd h5 (by omega)
        · walk_at "go"
          rw [show -(((many n d 0).natAbs : Nat) : Int) = many n d 0 by omega]
          exact ⟨rfl, rfl⟩
      · walk_at "go"
        rw [show (((many n d 0).natAbs : Nat) : Int) = many n d 0 by omega]
        exact ⟨rfl, rfl⟩
    rintro σ' H3 ⟨rfl, rfl⟩
    have fa := c2.sqT (c1.sqT fa)
    walk_at "go"
    refine ⟨10, _, 4, rfl, by decide, by decide, by omega, by omega, ?_⟩
    rw [Int.toNat_natCast]
    have ml := many_le (n := n) (p := 0) d0
    have mb : (many n d 0).natAbs < 2 ^ 600 := Nat.lt_of_lt_of_le (many_bd d0 bn (by omega)) (by decide +kernel)
    have mb1 : (many n d 0 + 1).natAbs < 2 ^ 601 := by
      rw [show (2 : Nat) ^ 601 = 2 ^ 600 * 2 by decide +kernel]
      omega
    have bp : ((10 : Int) ^ (0 : Nat)).natAbs < 2 ^ (4 * 0 + 1) := abs_pow_lt (a := 10) (b := 4) (s := 0) (by decide)
    walk_at "go"
    refine w_I (mul_ok mb bd (by decide)) ?_
    walk_at "go"
    try refine w_I (mul_ok bn bp (by omega)) ?_
    walk_at "go"
    rw [decide_eq_true ml.1]
    refine ite_t ?_
    walk_at "go"
    try refine w_I (mul_ok bn bp (by omega)) ?_
    walk_at "go"
    refine w_I (mul_ok mb1 bd (by decide)) ?_
    walk_at "go"
    rw [decide_eq_true ml.2]
    exact q _ (c1.trans c2)
  · rw [split1 z] at h2
    have h2 : H2 ha = some (.lst [.str (S (numL ((many n d p).natAbs / 10 ^ p))), .str (S (zf p ((many n d p).natAbs % 10 ^ p)))]) := h2
    have lz := zf_len lr (by omega)
    walk_at "go"
    refine w_lenL (.of h2) ?_
    walk_at "go"
    rw [show decide ((0 : Int) < (p : Int)) = true from decide_eq_true (by omega)]
    refine ite_f ?_
    walk_at "go"
    refine ⟨_, rfl, by omega, ?_⟩
    rw [plainB_iff.mpr (numL_plain _)]
    walk_at "go"
    refine ite_f ?_
    walk_at "go"
    refine ite_dt (show (0 : Int) < (p : Int) by omega) ?_
    walk_at "go"
    rw [S_len, lz]
    rw [show (!decide ((p : Int) = (p : Int))) = false by rw [decide_eq_true rfl]; rfl]
    refine ite_f ?_
    walk_at "go"
    rw [lit_one, S_cat]
    refine ⟨_, rfl, by rw [List.length_append, lz]; simp only [List.length_cons, List.length_nil]; omega, ?_⟩
    rw [show ([49] ++ zf p ((many n d p).natAbs % 10 ^ p)) = 49 :: zf p ((many n d p).natAbs % 10 ^ p) from rfl, plain_one (zf_dig _ _)]
    walk_at "go"
    refine ite_f ?_
    walk_at "go"
    refine w_join (ys := [S (numL ((many n d p).natAbs / 10 ^ p)), S (zf p ((many n d p).natAbs % 10 ^ p))]) (.of h2) ?_ ?_
    · simp only [List.map_cons, List.map_nil, List.sum_cons, List.sum_nil, S_len, lenlit, List.length_cons, List.length_nil]
      omega
    rw [lit_empty, show ([S (numL ((many n d p).natAbs / 10 ^ p)), S (zf p ((many n d p).natAbs % 10 ^ p))] : List Str) = [numL ((many n d p).natAbs / 10 ^ p), zf p ((many n d p).natAbs % 10 ^ p)].map S from rfl, SX.join_S, show TL.joinL [] [numL ((many n d p).natAbs / 10 ^ p), zf p ((many n d p).natAbs % 10 ^ p)] = numL ((many n d p).natAbs / 10 ^ p) ++ zf p ((many n d p).natAbs % 10 ^ p) from rfl]
    walk_at "go"
    refine w_intD (l := numL ((many n d p).natAbs / 10 ^ p) ++ zf p ((many n d p).natAbs % 10 ^ p)) ?_ (by simp [TL.numL_ne]) (by rw [List.length_append, lz]; omega) ?_
    · intro c hc
      rcases List.mem_append.mp hc with e | e
      · exact TL.numL_digits _ c e
      · exact zf_dig _ _ c e
    rw [dec_val (by omega)]
    walk_at "go"
    refine w_cut (M := fun σ' H' => H' = H2 ∧ σ' = [some (.ref a), some (.int ((p : Nat) : Int)), some (.str (S (decL n d p))), some (.str (S (dbody n d p))), some (.ref ha), some (.int (many n d p)), none]) ?_ ?_
    · walk_at "go"
      rw [cut_to (by decide), lit_minus, S_eq, show (decL n d p).take (Int.toNat 1) = (decL n d p).take 1 from rfl, decL_take]
      refine ite_d (fun h => ?_) (fun h => ?_)
      · walk_at "go"
        refine ite_d (fun h5 => ?_) (fun h5 => ?_)
        · exact absurd h5 (by omega)
        · walk_at "go"
          rw [show -(((many n d p).natAbs : Nat) : Int) = many n d p by omega]
          exact ⟨rfl, rfl⟩
      · walk_at "go"
        rw [show (((many n d p).natAbs : Nat) : Int) = many n d p by omega]
        exact ⟨rfl, rfl⟩
    rintro σ' H3 ⟨rfl, rfl⟩
    have fa := c2.sqT (c1.sqT fa)
    walk_at "go"
    refine ⟨10, _, 4, rfl, by decide, by decide, by omega, by omega, ?_⟩
    rw [Int.toNat_natCast]
    have ml := many_le (n := n) (p := p) d0
    have mb : (many n d p).natAbs < 2 ^ 600 := Nat.lt_of_lt_of_le (many_bd d0 bn (by omega)) (by decide +kernel)
    have mb1 : (many n d p + 1).natAbs < 2 ^ 601 := by
      rw [show (2 : Nat) ^ 601 = 2 ^ 600 * 2 by decide +kernel]
      omega
    have bp : ((10 : Int) ^ (p : Nat)).natAbs < 2 ^ (4 * p + 1) := abs_pow_lt (a := 10) (b := 4) (s := p) (by decide)
    walk_at "go"
    refine w_I (mul_ok mb bd (by decide)) ?_
    walk_at "go"
    try refine w_I (mul_ok bn bp (by omega)) ?_
    walk_at "go"
    rw [decide_eq_true ml.1]
    refine ite_t ?_
    walk_at "go"
    try refine w_I (mul_ok bn bp (by omega)) ?_
    walk_at "go"
    refine w_I (mul_ok mb1 bd (by decide)) ?_
    walk_at "go"
    rw [decide_eq_true ml.2]
    exact q _ (c1.trans c2)
end
end My
namespace My
open PySem PySem.Spec PyProof.Rows L2
section
variable {P : Program} {w : World} {K : PySem.W.Frag} {mg : Str → Option Value} {base : Heap}
abbrev s__law_decimals_hold : Stmt := topS 40
theorem sc__law_decimals_hold : FnScope ["box", "a", "turn", "places", "shared", "top"] ["box"] (defScope s__law_decimals_hold) := ⟨rfl, rfl, rfl, by decide +kernel, rfl, by decide +kernel, by decide +kernel⟩
theorem c__law_decimals_hold (T : Txt mg) (z_max : mg "max" = none) (C__law_number : Cal P w K mg base 4 "_law_number" (sp__law_number K)) (C__law_places : Cal P w K mg base 2 "_law_places" sp__law_places) (C__law_decimal_holds : Cal P w K mg base 4 "_law_decimal_holds" (sp__law_decimal_holds K)) (C__law_take : Cal P w K mg base 1 "_law_take" sp__law_take)
    (C__law_turned : Cal P w K mg base 2 "_law_turned" sp__law_turned) (C__law_limbs : Cal P w K mg base 2 "_law_limbs" sp__law_limbs) (C__law_power : Cal P w K mg base 1 "_law_power" sp__law_power) (C__law_lowest : Cal P w K mg base 2 "_law_lowest" (sp__law_lowest K))
    {f : Addr} {fd : FuncData} (F : DefF K mg "_law_decimals_hold" s__law_decimals_hold ["box"] f fd) : Cal P w K mg base 5 "_law_decimals_hold" sp__law_texts_hold := by
  refine cal_of F sc__law_decimals_hold (fun vs H Q E h => by obtain ⟨_, rfl, _⟩ := h; rfl) (fun cdv A outer s H vs Q E hr h => ?_)
  obtain ⟨b, rfl, B, q⟩ := h
  refine ⟨_, (pss_cons (ps_set (i := 1) sc__law_decimals_hold.nd rfl (Or.inl rfl) (pe_cc C__law_number hr (by decide) (by rfl) (pa_cons (pv 0) pa_nil)))
 (pss_cons (ps_for PassesOwn.never rfl (pi_range1 (by rfl) T.z_range (pa_cons pe_int pa_nil)) (pg_name (i := 2) sc__law_decimals_hold.nd rfl (Or.inl rfl)) (pss_cons (ps_set (i := 3) sc__law_decimals_hold.nd rfl (Or.inl rfl) (pe_cc C__law_places hr (by decide) (by rfl) (pa_cons (pv 0) pa_nil)))
 (pss_one (ps_if (PW.pt (pw_or (pt_not (pt_val (pe_cc C__law_decimal_holds hr (by decide) (by rfl) (pa_cons (pv 1) (pa_cons (pv 3) pa_nil))))) (pw_or1 (pt_not (pt_val (pe_cc C__law_decimal_holds hr (by decide) (by rfl) (pa_cons (pe_tup (pa_cons (pe_un un_neg (pe_ix (k_ixT (K := K) rfl) (pv 1) pe_int (fun _ _ => rfl))) (pa_cons (pe_ix (k_ixT (K := K) rfl) (pv 1) pe_int (fun _ _ => rfl)) pa_nil))) (pa_cons (pv 3) pa_nil)))))))) (pss_one (ps_ret pe_bl)) pss_nil))))
 (pss_cons (ps_set (i := 3) sc__law_decimals_hold.nd rfl (Or.inl rfl) (pe_cc C__law_take hr (by decide) (by rfl) (pa_cons (pv 0) (pa_cons pe_int pa_nil))))
 (pss_cons (ps_set (i := 4) sc__law_decimals_hold.nd rfl (Or.inl rfl) (pe_op op_add pe_int (pe_cc C__law_limbs hr (by decide) (by rfl) (pa_cons (pv 0) (pa_cons pe_int pa_nil)))))
 (pss_cons (ps_set (i := 5) sc__law_decimals_hold.nd rfl (Or.inl rfl) (pe_op op_sub (pe_op op_add (pe_op op_mulG (pe_cc C__law_turned hr (by decide) (by rfl) (pa_cons (pv 0) (pa_cons (pe_cc C__law_limbs hr (by decide) (by rfl) (pa_cons (pv 0) (pa_cons (pe_op op_add pe_int (pe_cc C__law_take hr (by decide) (by rfl) (pa_cons (pv 0) (pa_cons pe_int pa_nil)))) pa_nil))) pa_nil))) (pv 4)) (pe_cc C__law_take hr (by decide) (by rfl) (pa_cons (pv 0) (pa_cons pe_int pa_nil)))) pe_int))
 (pss_cons (ps_set (i := 1) sc__law_decimals_hold.nd rfl (Or.inl rfl) (pe_cc C__law_lowest hr (by decide) (by rfl) (pa_cons (pv 5) (pa_cons (pe_op op_mulG (pe_cc C__law_power hr (by decide) (by rfl) (pa_cons pe_int (pa_cons (pv 3) pa_nil))) (pv 4)) pa_nil))))
 (pss_cons (ps_if (PW.pt (pw_or (pt_not (pt_val (pe_cc C__law_decimal_holds hr (by decide) (by rfl) (pa_cons (pv 1) (pa_cons (pv 3) pa_nil))))) (pw_or1 (pt_not (pt_val (pe_cc C__law_decimal_holds hr (by decide) (by rfl) (pa_cons (pv 1) (pa_cons (pe_op op_add (pv 3) pe_int) pa_nil)))))))) (pss_one (ps_ret pe_bl)) pss_nil)
 (pss_one (ps_ret (pe_cc C__law_decimal_holds hr (by decide) (by rfl) (pa_cons (pv 1) (pa_cons (pe_callB (cb_max2 rfl) (by rfl) z_max (by decide +kernel) (pa_cons pe_int (pa_cons (pe_op op_sub (pv 3) pe_int) pa_nil))) pa_nil)))))))))))), ?_⟩
  refine w_start (σ := [some _, none, none, none, none, none]) rfl ?_
  walk_at "go"
  refine ⟨b, rfl, B, fun a n d H1 N c1 B fa => ?_⟩
  have c := c1
  walk_at "go"
  refine w_iR1r (by decide) (by decide) ?_
  refine for_R (n := 2) (fun i σ H' => Ch [b] H H' ∧ RB H' b ∧ Fr K H' a n d ∧ ∃ z2 z3, σ = [some (.ref b), some (.ref a), z2, z3, none, none]) ⟨c, B, fa, none, none, rfl⟩ ?_ ?_
  · rintro i σ H2 hi ⟨c, B, fa, z2, z3, rfl⟩
    walk_at "go"
    refine ⟨b, rfl, B, fun z H3 z0 z1 c3 B => ?_⟩
    have fa := c3.sqT fa
    have c := c.trans c3
    walk_at "go"
    refine ⟨a, n, d, z, z.toNat, rfl, by omega, by omega, fa, N.pos, N.bn, N.bd, fun H4 c4 => ?_⟩
    have fa := c4.sqT fa
    have c := c.trans0 c4
    have B := B.mono c4
    walk_at "go"
    refine ite_f ?_
    walk_at "go"
    refine w_newT (show 2 ≤ sizeLine by decide) fun t H5 n5 c5 h5 => ?_
    walk_at "go"
    refine ⟨t, -n, d, z, z.toNat, rfl, by omega, by omega, .of h5, N.pos, by rw [Int.natAbs_neg]; exact N.bn, N.bd, fun H6 c6 => ?_⟩
    walk_at "go"
    refine ite_f ?_
    exact ⟨(c.trans0 c5).trans0 c6, (B.mono c5).mono c6, c6.sqT (c5.sqT fa), _, _, rfl⟩
  rintro σ H2 ⟨c, B, fa, z2, z3, rfl⟩
  walk_at "go"
  refine ⟨b, 16, rfl, B, by decide, by decide +kernel, fun pl H3 p0 p1 c3 B => ?_⟩
  walk_at "go"
  refine ⟨b, 2, rfl, B, by decide, by decide, fun r H4 r0 r1 c4 B => ?_⟩
  have e2 : (100000 : Int) ^ Int.toNat 2 = 10000000000 := by decide +kernel
  rw [e2] at r1
  walk_at "go"
  refine ⟨b, 3, rfl, B, by decide, by decide +kernel, fun k H5 k0 k1 c5 B => ?_⟩
  walk_at "go"
  refine ⟨b, 1 + k, rfl, B, by omega, by omega, fun u H6 u0 u1 c6 B => ?_⟩
  have ub : u.natAbs < 2 ^ 60 := by
    have e : ((100000 : Int) ^ (1 + k).toNat) ≤ 100000 ^ 3 := pow_le (by decide) (by omega)
    rw [show (100000 : Int) ^ 3 = 1000000000000000 by decide +kernel] at e
    omega
  walk_at "go"
  refine ⟨b, u, rfl, B, fun v H7 ev c7 B => ?_⟩
  have vb : v.natAbs < 2 ^ 60 := by rcases ev with e | e <;> rw [e] <;> omega
  have rb : (1 + r).natAbs < 2 ^ 40 := by omega
  have vr : (v * (1 + r)).natAbs < 2 ^ 100 := mulb vb rb
  walk_at "go"
  refine w_I (mul_ok vb rb (by decide)) ?_
  walk_at "go"
  refine ⟨b, 3, rfl, B, by decide, by decide +kernel, fun k2 H8 k20 k21 c8 B => ?_⟩
  walk_at "go"
  refine ⟨10, pl, 4, rfl, by decide, by decide, p0, by omega, ?_⟩
  have bp : ((10 : Int) ^ pl.toNat).natAbs < 2 ^ (4 * pl.toNat + 1) := abs_pow_lt (a := 10) (b := 4) (s := pl.toNat) (by decide)
  have bp2 : ((10 : Int) ^ pl.toNat).natAbs < 2 ^ 80 := abs_mono bp (by omega)
  have pp : 0 < (10 : Int) ^ pl.toNat := Int.pow_pos (by decide)
  have bb : ((10 : Int) ^ pl.toNat * (1 + r)).natAbs < 2 ^ 120 := mulb bp2 rb
  have tb : (v * (1 + r) + k2 - 1).natAbs < 2 ^ 120 := by
    rw [show (2 : Nat) ^ 120 = 2 ^ 100 * 1048576 by decide +kernel]
    omega
  walk_at "go"
  refine w_I (mul_ok bp2 rb (by decide)) ?_
  walk_at "go"
  refine ⟨_, _, rfl, Int.mul_ne_zero (by omega) (by omega), abs_mono bb (by decide), fun a2 n2 d2 H9 lo c9 f9 => ?_⟩
  have N2 := lo.num (abs_mono tb (by decide)) (abs_mono bb (by decide))
  have c := (((((((c.trans c3).trans c4).trans c5).trans c6).trans c7).trans c8)).trans0 c9
  have B := B.mono c9
  walk_at "go"
  refine ⟨a2, n2, d2, pl, pl.toNat, rfl, by omega, by omega, f9, N2.pos, N2.bn, N2.bd, fun H10 c10 => ?_⟩
  have f10 := c10.sqT f9
  walk_at "go"
  refine ite_f ?_
  walk_at "go"
  refine ⟨a2, n2, d2, pl + 1, (pl + 1).toNat, rfl, by omega, by omega, f10, N2.pos, N2.bn, N2.bd, fun H11 c11 => ?_⟩
  have f11 := c11.sqT f10
  walk_at "go"
  refine ite_f ?_
  walk_at "go"
  refine ⟨a2, n2, d2, _, (pl - 1).toNat, rfl, ?_, by omega, f11, N2.pos, N2.bn, N2.bd, fun H12 c12 => ?_⟩
  · split <;> omega
  exact q _ (((c.trans0 c10).trans0 c11).trans0 c12) (((B.mono c10).mono c11).mono c12)
abbrev s__law_less : Stmt := topS 36
theorem sc__law_less : FnScope ["a", "b"] ["a", "b"] (defScope s__law_less) := ⟨rfl, rfl, rfl, by decide +kernel, rfl, by decide +kernel, by decide +kernel⟩
def sp__law_less (K : PySem.W.Frag) : Sp := fun vs H Q _ => ∃ (a b : Addr) (n d m e : Int) (z : Nat), vs = [.ref a, .ref b] ∧ Fr K H a n d ∧ Fr K H b m e ∧ n.natAbs < 2 ^ z ∧ d.natAbs < 2 ^ z ∧ m.natAbs < 2 ^ z ∧ e.natAbs < 2 ^ z ∧ z ≤ 60000 ∧ Q (.bl (decide (n * e < m * d))) H
theorem c__law_less {f : Addr} {fd : FuncData} (F : DefF K mg "_law_less" s__law_less ["a", "b"] f fd) : Cal P w K mg base 1 "_law_less" (sp__law_less K) := by
  refine cal_of F sc__law_less (fun vs H Q E h => by obtain ⟨_, _, _, _, _, _, _, rfl, _⟩ := h; rfl) (fun cdv A outer s H vs Q E hr h => ?_)
  obtain ⟨a, b, n, d, m, e, z, rfl, fa, fb, b1, b2, b3, b4, hz, q⟩ := h
  refine ⟨_, (pss_one (ps_ret (pe_cmpR op_lt (pe_op op_mulG (pe_ix (k_ixT (K := K) rfl) (pv 0) pe_int (fun _ _ => rfl)) (pe_ix (k_ixT (K := K) rfl) (pv 1) pe_int (fun _ _ => rfl))) (pe_op op_mulG (pe_ix (k_ixT (K := K) rfl) (pv 1) pe_int (fun _ _ => rfl)) (pe_ix (k_ixT (K := K) rfl) (pv 0) pe_int (fun _ _ => rfl))) (nomark _)))), ?_⟩
  refine w_start (σ := [some _, some _]) rfl ?_
  walk_at "go"
  refine w_I (mul_ok b1 b4 (by omega)) ?_
  walk_at "go"
  refine w_I (mul_ok b3 b2 (by omega)) ?_
  walk_at "go"
  exact q
end
end My
namespace My
open PySem PySem.Spec PyProof.Rows L2
/-! ### stretches, in plain numbers -/
def Red (c x : Pr) : Prop := Low c.1 c.2 x.1 x.2
theorem Red.le1 {c x : Pr} (h : Red c x) : LeF x c := by
  have e : x.1 * c.2 = x.2 * c.1 := h.eq
  show x.1 * c.2 ≤ c.1 * x.2
  rw [e, Int.mul_comm]
  exact Int.le_refl _
theorem Red.le2 {c x : Pr} (h : Red c x) : LeF c x := by
  have e : x.1 * c.2 = x.2 * c.1 := h.eq
  show c.1 * x.2 ≤ x.1 * c.2
  rw [e, Int.mul_comm]
  exact Int.le_refl _
theorem cross_eq {n d m e : Int} (d0 : 0 < d) (dc : Nat.gcd n.natAbs d.natAbs = 1) (e0 : 0 < e) (ec : Nat.gcd m.natAbs e.natAbs = 1) (h : n * e = m * d) : n = m ∧ d = e := by
  have a3 : n.natAbs * e.natAbs = m.natAbs * d.natAbs := by rw [← Int.natAbs_mul, ← Int.natAbs_mul, h]
  have c1 : Nat.Coprime d.natAbs n.natAbs := by rw [Nat.Coprime, Nat.gcd_comm]; exact dc
  have c2 : Nat.Coprime e.natAbs m.natAbs := by rw [Nat.Coprime, Nat.gcd_comm]; exact ec
  have d1 : d.natAbs ∣ e.natAbs := c1.dvd_of_dvd_mul_left (by rw [a3]; exact Nat.dvd_mul_left _ _)
  have d2 : e.natAbs ∣ d.natAbs := c2.dvd_of_dvd_mul_left (by rw [← a3]; exact Nat.dvd_mul_left _ _)
  have ee : d = e := by
    have := Nat.dvd_antisymm d1 d2
    omega
  subst ee
  exact ⟨Int.eq_of_mul_eq_mul_right (by omega) h, rfl⟩
structure NB (z : Nat) (x : Pr) : Prop where
  pos : 0 < x.2
  cop : Nat.gcd x.1.natAbs x.2.natAbs = 1
  bn : x.1.natAbs < 2 ^ z
  bd : x.2.natAbs < 2 ^ z
theorem NB.mono {z y : Nat} {x : Pr} (h : NB z x) (hz : z ≤ y) : NB y x := ⟨h.pos, h.cop, abs_mono h.bn hz, abs_mono h.bd hz⟩
theorem nb_eq {z y : Nat} {a b : Pr} (ha : NB z a) (hb : NB y b) (h1 : LeF a b) (h2 : LeF b a) : a = b := by
  have h : a.1 * b.2 = b.1 * a.2 := Int.le_antisymm h1 h2
  obtain ⟨e1, e2⟩ := cross_eq ha.pos ha.cop hb.pos hb.cop h
  exact Prod.ext e1 e2
structure NS (z : Nat) (s : Pr × Pr) : Prop where
  a : NB z s.1
  b : NB z s.2
  le : LeF s.1 s.2
theorem NS.mono {z y : Nat} {s : Pr × Pr} (h : NS z s) (hz : z ≤ y) : NS y s := ⟨h.a.mono hz, h.b.mono hz, h.le⟩
theorem NS.str {z : Nat} {s : Pr × Pr} (h : NS z s) : Str2 s := ⟨h.a.pos, h.b.pos, h.le⟩
theorem du_bd {z y : Nat} {deed : Int} {a b : Pr} (ha : NB z a) (hb : NB y b) : (du deed a b).1.natAbs < 2 ^ (z + y + 1) ∧ (du deed a b).2.natAbs < 2 ^ (z + y + 1) := by
  have p1 := mulb ha.bn hb.bd
  have p2 := mulb hb.bn ha.bd
  have p3 := mulb ha.bd hb.bd
  have p4 := mulb ha.bn hb.bn
  rw [Nat.add_comm y z] at p2
  have ee : 2 ^ (z + y + 1) = 2 ^ (z + y) * 2 := Nat.pow_succ ..
  rw [ee]
  generalize 2 ^ (z + y) = N at *
  unfold du
  split
  · exact ⟨by show (a.1 * b.2 + b.1 * a.2).natAbs < N * 2; omega, by show (a.2 * b.2).natAbs < N * 2; omega⟩
  · exact ⟨by show (a.1 * b.1).natAbs < N * 2; omega, by show (a.2 * b.2).natAbs < N * 2; omega⟩
theorem Red.nb {c x : Pr} {z : Nat} (h : Red c x) (b : c.1.natAbs < 2 ^ z ∧ c.2.natAbs < 2 ^ z) : NB z x := ⟨h.pos, h.cop, Nat.lt_of_le_of_lt h.ln b.1, Nat.lt_of_le_of_lt h.ld b.2⟩
/-- x is the least, y the greatest of these -/
structure MM (l : List Pr) (x y : Pr) : Prop where
  mx : x ∈ l
  my : y ∈ l
  le : ∀ c ∈ l, LeF x c ∧ LeF c y
theorem MM.one (c : Pr) : MM [c] c c := ⟨by simp, by simp, fun d hd => by rw [List.mem_singleton.mp hd]; exact ⟨.refl _, .refl _⟩⟩
theorem MM.step {l : List Pr} {x y c x' y' : Pr} (h : MM l x y) (p : ∀ d ∈ l, 0 < d.2) (pc : 0 < c.2) (hx : (x' = c ∧ LeF c x) ∨ (x' = x ∧ LeF x c)) (hy : (y' = c ∧ LeF y c) ∨ (y' = y ∧ LeF c y)) : MM (l ++ [c]) x' y' := by
  have px := p x h.mx
  have py := p y h.my
  refine ⟨?_, ?_, fun d hd => ?_⟩
  · rcases hx with ⟨e, _⟩ | ⟨e, _⟩ <;> rw [e] <;> simp [h.mx]
  · rcases hy with ⟨e, _⟩ | ⟨e, _⟩ <;> rw [e] <;> simp [h.my]
  · rcases List.mem_append.mp hd with hd | hd
    · obtain ⟨a, b⟩ := h.le d hd
      have pd := p d hd
      constructor
      · rcases hx with ⟨e, q⟩ | ⟨e, q⟩ <;> rw [e]
        · exact q.trans px pc pd a
        · exact a
      · rcases hy with ⟨e, q⟩ | ⟨e, q⟩ <;> rw [e]
        · exact b.trans py pd pc q
        · exact b
    · rw [List.mem_singleton.mp hd]
      constructor
      · rcases hx with ⟨e, q⟩ | ⟨e, q⟩ <;> rw [e]
        · exact .refl _
        · exact q
      · rcases hy with ⟨e, q⟩ | ⟨e, q⟩ <;> rw [e]
        · exact .refl _
        · exact q
theorem not_le {x c : Pr} (h : ¬ c.1 * x.2 < x.1 * c.2) : LeF x c := Int.not_lt.mp h
structure Ends (l : List Pr) (u : Pr × Pr) : Prop where
  m1 : ∃ c ∈ l, Red c u.1
  m2 : ∃ c ∈ l, Red c u.2
  le : ∀ c ∈ l, LeF u.1 c ∧ LeF c u.2
theorem Ends.imp {l m : List Pr} {u : Pr × Pr} (h : Ends l u) (e : ∀ c, c ∈ l ↔ c ∈ m) : Ends m u := by
  obtain ⟨⟨c, h1, h2⟩, ⟨d, h3, h4⟩, h5⟩ := h
  exact ⟨⟨c, (e c).mp h1, h2⟩, ⟨d, (e d).mp h3, h4⟩, fun c hc => h5 c ((e c).mpr hc)⟩
theorem Ends.uniq {l : List Pr} {u v : Pr × Pr} (p : ∀ c ∈ l, 0 < c.2) (h : Ends l u) (k : Ends l v) : u = v := by
  obtain ⟨⟨a, a1, a2⟩, ⟨b, b1, b2⟩, le⟩ := h
  obtain ⟨⟨c, c1, c2⟩, ⟨d, d1, d2⟩, ke⟩ := k
  have nb : ∀ {x y : Pr}, Red x y → NB (max y.1.natAbs y.2.natAbs + 1) y := fun {x y} r => ⟨r.pos, r.cop, Nat.lt_of_lt_of_le Nat.lt_two_pow_self (Nat.pow_le_pow_right (by decide) (by omega)), Nat.lt_of_lt_of_le Nat.lt_two_pow_self (Nat.pow_le_pow_right (by decide) (by omega))⟩
  have e1 : u.1 = v.1 := nb_eq (nb a2) (nb c2) ((le c c1).1.trans (p c c1) a2.pos c2.pos c2.le2) ((ke a a1).1.trans (p a a1) c2.pos a2.pos a2.le2)
  have e2 : u.2 = v.2 := nb_eq (nb b2) (nb d2) (b2.le1.trans (p b b1) b2.pos d2.pos (ke b b1).2) (d2.le1.trans (p d d1) d2.pos b2.pos (le d d1).2)
  exact Prod.ext e1 e2
theorem cs_pos {deed : Int} {s t : Pr × Pr} (S : Str2 s) (T : Str2 t) : ∀ c ∈ cs deed s t, 0 < c.2 := fun u hu => by
  unfold cs at hu
  simp only [List.mem_cons, List.not_mem_nil, or_false] at hu
  rcases hu with z | z | z | z <;> rw [z]
  · exact du_pos S.p1 T.p1
  · exact du_pos S.p1 T.p2
  · exact du_pos S.p2 T.p1
  · exact du_pos S.p2 T.p2
theorem cs_bd {z y : Nat} {deed : Int} {s t : Pr × Pr} (S : NS z s) (T : NS y t) : ∀ c ∈ cs deed s t, c.1.natAbs < 2 ^ (z + y + 1) ∧ c.2.natAbs < 2 ^ (z + y + 1) := fun u hu => by
  unfold cs at hu
  simp only [List.mem_cons, List.not_mem_nil, or_false] at hu
  rcases hu with e | e | e | e <;> rw [e]
  · exact du_bd S.a T.a
  · exact du_bd S.a T.b
  · exact du_bd S.b T.a
  · exact du_bd S.b T.b
theorem Ends.ns {z y : Nat} {deed : Int} {s t u : Pr × Pr} (S : NS z s) (T : NS y t) (h : Ends (cs deed s t) u) : NS (z + y + 1) u := by
  obtain ⟨⟨a, a1, a2⟩, ⟨b, b1, b2⟩, le⟩ := h
  exact ⟨a2.nb (cs_bd S T a a1), b2.nb (cs_bd S T b b1), (le a a1).1.trans (cs_pos S.str T.str a a1) a2.pos b2.pos (le a a1).2⟩
/-- from the reduced four -/
theorem ends_of {l : List Pr} {r1 r2 r3 r4 c1 c2 c3 c4 x y : Pr} (p1 : 0 < c1.2) (p2 : 0 < c2.2) (p3 : 0 < c3.2) (p4 : 0 < c4.2) (e1 : Red c1 r1) (e2 : Red c2 r2) (e3 : Red c3 r3) (e4 : Red c4 r4) (h : MM [r1, r2, r3, r4] x y) : Ends [c1, c2, c3, c4] (x, y) := by
  have tell : ∀ r ∈ [r1, r2, r3, r4], ∃ c ∈ [c1, c2, c3, c4], Red c r := fun r hr => by
    simp only [List.mem_cons, List.not_mem_nil, or_false] at hr
    rcases hr with e | e | e | e <;> rw [e]
    · exact ⟨c1, by simp, e1⟩
    · exact ⟨c2, by simp, e2⟩
    · exact ⟨c3, by simp, e3⟩
    · exact ⟨c4, by simp, e4⟩
  have pos : ∀ r ∈ [r1, r2, r3, r4], 0 < r.2 := fun r hr => by
    obtain ⟨c, _, e⟩ := tell r hr
    exact e.pos
  refine ⟨tell x h.mx, tell y h.my, fun c hc => ?_⟩
  have px := pos x h.mx
  have py := pos y h.my
  simp only [List.mem_cons, List.not_mem_nil, or_false] at hc
  rcases hc with e | e | e | e <;> rw [e]
  · exact ⟨(h.le r1 (by simp)).1.trans e1.pos px p1 e1.le1, e1.le2.trans e1.pos p1 py (h.le r1 (by simp)).2⟩
  · exact ⟨(h.le r2 (by simp)).1.trans e2.pos px p2 e2.le1, e2.le2.trans e2.pos p2 py (h.le r2 (by simp)).2⟩
  · exact ⟨(h.le r3 (by simp)).1.trans e3.pos px p3 e3.le1, e3.le2.trans e3.pos p3 py (h.le r3 (by simp)).2⟩
  · exact ⟨(h.le r4 (by simp)).1.trans e4.pos px p4 e4.le1, e4.le2.trans e4.pos p4 py (h.le r4 (by simp)).2⟩
/-- sums: the ends give the ends -/
theorem ends_sum {s t : Pr × Pr} {x y : Pr} (S : Str2 s) (T : Str2 t) (h1 : Red (du 0 s.1 t.1) x) (h2 : Red (du 0 s.2 t.2) y) : Ends (cs 0 s t) (x, y) := by
  have q1 := du_pos (deed := 0) S.p1 T.p1
  have q2 := du_pos (deed := 0) S.p2 T.p2
  refine ⟨⟨_, by unfold cs; simp, h1⟩, ⟨_, by unfold cs; simp, h2⟩, fun c hc => ?_⟩
  have both : LeF (du 0 s.1 t.1) c ∧ LeF c (du 0 s.2 t.2) := by
    have a1 := add_mono (b := t.1) S.p1 S.p2 T.p1 S.le
    have a2 := add_mono (b := t.2) S.p1 S.p2 T.p2 S.le
    have a3 := add_mono (b := s.1) T.p1 T.p2 S.p1 T.le
    have a4 := add_mono (b := s.2) T.p1 T.p2 S.p2 T.le
    rw [du_comm 0 t.1 s.1, du_comm 0 t.2 s.1] at a3
    rw [du_comm 0 t.1 s.2, du_comm 0 t.2 s.2] at a4
    have q3 := du_pos (deed := 0) S.p1 T.p2
    have q4 := du_pos (deed := 0) S.p2 T.p1
    unfold cs at hc
    simp only [List.mem_cons, List.not_mem_nil, or_false] at hc
    rcases hc with e | e | e | e <;> rw [e]
    · exact ⟨.refl _, a3.trans q3 q1 q2 a2⟩
    · exact ⟨a3, a2⟩
    · exact ⟨a1, a4⟩
    · exact ⟨a3.trans q3 q1 q2 a2, .refl _⟩
  have pc := cs_pos S T c hc
  exact ⟨h1.le1.trans q1 h1.pos pc both.1, both.2.trans q2 pc h2.pos h2.le2⟩
section
variable {P : Program} {w : World} {K : PySem.W.Frag} {mg : Str → Option Value} {base : Heap}
/-- a stretch at t -/
def Sc (K : PySem.W.Frag) (H : Hp) (t : Addr) (s : Pr × Pr) : Prop := ∃ a b : Addr, SqT K H t [.ref a, .ref b] ∧ Fr K H a s.1.1 s.1.2 ∧ Fr K H b s.2.1 s.2.2
theorem Sc.ch {L : List Addr} {H H' : Hp} {t : Addr} {s : Pr × Pr} (h : Sc K H t s) (c : Ch L H H') : Sc K H' t s := by
  obtain ⟨a, b, h1, h2, h3⟩ := h
  exact ⟨a, b, c.sqT h1, c.sqT h2, c.sqT h3⟩
def sp_join (K : PySem.W.Frag) (deed : Int) : Sp := fun vs H Q _ => ∃ (a b : Addr) (s t : Pr × Pr) (z : Nat), vs = [.ref a, .ref b] ∧ Sc K H a s ∧ Sc K H b t ∧ NS z s ∧ NS z t ∧ z ≤ 900 ∧
  ∀ (c : Addr) (u : Pr × Pr) H', Ends (cs deed s t) u → Ch [] H H' → Sc K H' c u → Q (.ref c) H'
abbrev s_stretch_plus : Stmt := topS 18
theorem sc_stretch_plus : FnScope ["s", "t"] ["s", "t"] (defScope s_stretch_plus) := ⟨rfl, rfl, rfl, by decide +kernel, rfl, by decide +kernel, by decide +kernel⟩
theorem c_stretch_plus (C_plus : Cal P w K mg base 2 "plus" (sp_two K fun n d m e => (n * e + m * d, d * e))) {f : Addr} {fd : FuncData} (F : DefF K mg "stretch_plus" s_stretch_plus ["s", "t"] f fd) : Cal P w K mg base 3 "stretch_plus" (sp_join K 0) := by
  refine cal_of F sc_stretch_plus (fun vs H Q E h => by obtain ⟨_, _, _, _, _, rfl, _⟩ := h; rfl) (fun cdv A outer s0 H vs Q E hr h => ?_)
  obtain ⟨a, b, s, t, z, rfl, ⟨a1, a2, ha, f1, f2⟩, ⟨b1, b2, hb, g1, g2⟩, S, T, hz, q⟩ := h
  refine ⟨_, (pss_one (ps_ret (pe_tup (pa_cons (pe_cc C_plus hr (by decide) (by rfl) (pa_cons (pe_ix (k_ixT (K := K) rfl) (pv 0) pe_int (fun _ _ => rfl)) (pa_cons (pe_ix (k_ixT (K := K) rfl) (pv 1) pe_int (fun _ _ => rfl)) pa_nil))) (pa_cons (pe_cc C_plus hr (by decide) (by rfl) (pa_cons (pe_ix (k_ixT (K := K) rfl) (pv 0) pe_int (fun _ _ => rfl)) (pa_cons (pe_ix (k_ixT (K := K) rfl) (pv 1) pe_int (fun _ _ => rfl)) pa_nil))) pa_nil))))), ?_⟩
  refine w_start (σ := [some _, some _]) rfl ?_
  walk_at "go"
  refine ⟨a1, b1, _, _, _, _, z, rfl, f1, g1, S.a.pos, T.a.pos, S.a.bn, S.a.bd, T.a.bn, T.a.bd, by omega, fun x n d H1 l1 c1 h1 => ?_⟩
  have ha := c1.sqT ha
  have hb := c1.sqT hb
  walk_at "go"
  refine ⟨a2, b2, _, _, _, _, z, rfl, c1.sqT f2, c1.sqT g2, S.b.pos, T.b.pos, S.b.bn, S.b.bd, T.b.bn, T.b.bd, by omega, fun y m e H2 l2 c2 h2 => ?_⟩
  walk_at "go"
  refine w_newT (show 2 ≤ sizeLine by decide) fun c H3 n3 c3 h3 => ?_
  exact q c ((n, d), (m, e)) H3 (ends_sum (x := (n, d)) (y := (m, e)) S.str T.str l1 l2) ((c1.trans c2).trans c3) ⟨x, y, .of h3, c3.sqT (c2.sqT h1), c3.sqT h2⟩
end
end My
namespace My
open PySem PySem.Spec PyProof.Rows L2
section
variable {P : Program} {w : World} {K : PySem.W.Frag} {mg : Str → Option Value} {base : Heap}
theorem sgn_neg {i : Int} : sgn i < 0 ↔ i < 0 := by
  unfold sgn
  split
  · omega
  · split <;> omega
theorem sgn_pos {i : Int} : 0 < sgn i ↔ 0 < i := by
  unfold sgn
  split
  · omega
  · split <;> omega
abbrev s_stretch_times : Stmt := topS 19
theorem sc_stretch_times : FnScope ["s", "t", "low", "high", "other"] ["s", "t"] (defScope s_stretch_times) := ⟨rfl, rfl, rfl, by decide +kernel, rfl, by decide +kernel, by decide +kernel⟩
theorem c_stretch_times (C_times : Cal P w K mg base 2 "times" (sp_two K fun n d m e => (n * m, d * e))) (C_compare : Cal P w K mg base 2 "compare" (sp_compare K)) {f : Addr} {fd : FuncData} (F : DefF K mg "stretch_times" s_stretch_times ["s", "t"] f fd) : Cal P w K mg base 3 "stretch_times" (sp_join K 1) := by
  refine cal_of F sc_stretch_times (fun vs H Q E h => by obtain ⟨_, _, _, _, _, rfl, _⟩ := h; rfl) (fun cdv A outer s0 H vs Q E hr h => ?_)
  obtain ⟨a, b, s, t, z, rfl, ⟨a1, a2, ha, f1, f2⟩, ⟨b1, b2, hb, g1, g2⟩, S, T, hz, q⟩ := h
  refine ⟨_, (pss_cons (ps_asg2 (pe_cc C_times hr (by decide) (by rfl) (pa_cons (pe_ix (k_ixT (K := K) rfl) (pv 0) pe_int (fun _ _ => rfl)) (pa_cons (pe_ix (k_ixT (K := K) rfl) (pv 1) pe_int (fun _ _ => rfl)) pa_nil))) (pg_name (i := 2) sc_stretch_times.nd rfl (Or.inl rfl)) (pg_name (i := 3) sc_stretch_times.nd rfl (Or.inl rfl)))
 (pss_cons (ps_for PassesOwn.never rfl (k_piT (K := K) rfl (pe_tup (pa_cons (pe_cc C_times hr (by decide) (by rfl) (pa_cons (pe_ix (k_ixT (K := K) rfl) (pv 0) pe_int (fun _ _ => rfl)) (pa_cons (pe_ix (k_ixT (K := K) rfl) (pv 1) pe_int (fun _ _ => rfl)) pa_nil))) (pa_cons (pe_cc C_times hr (by decide) (by rfl) (pa_cons (pe_ix (k_ixT (K := K) rfl) (pv 0) pe_int (fun _ _ => rfl)) (pa_cons (pe_ix (k_ixT (K := K) rfl) (pv 1) pe_int (fun _ _ => rfl)) pa_nil))) (pa_cons (pe_cc C_times hr (by decide) (by rfl) (pa_cons (pe_ix (k_ixT (K := K) rfl) (pv 0) pe_int (fun _ _ => rfl)) (pa_cons (pe_ix (k_ixT (K := K) rfl) (pv 1) pe_int (fun _ _ => rfl)) pa_nil))) pa_nil))))) (pg_name (i := 4) sc_stretch_times.nd rfl (Or.inl rfl)) (Evl.pss_cut (ps_if (pt_cmpR op_lt (pe_cc C_compare hr (by decide) (by rfl) (pa_cons (pv 4) (pa_cons (pv 2) pa_nil))) pe_int (nomark _)) (pss_one (ps_set (i := 2) sc_stretch_times.nd rfl (Or.inl rfl) (pv 4))) pss_nil)
 (pss_one (ps_if (pt_cmpR op_gt (pe_cc C_compare hr (by decide) (by rfl) (pa_cons (pv 4) (pa_cons (pv 3) pa_nil))) pe_int (nomark _)) (pss_one (ps_set (i := 3) sc_stretch_times.nd rfl (Or.inl rfl) (pv 4))) pss_nil))))
 (pss_one (ps_ret (pe_tup (pa_cons (pv 2) (pa_cons (pv 3) pa_nil))))))), ?_⟩
  refine w_start (σ := [some _, some _, none, none, none]) rfl ?_
  have B := fun (deed : Int) => cs_bd (deed := deed) S T
  have nb : ∀ {c : Pr} {n d : Int}, c ∈ cs 1 s t → Low c.1 c.2 n d → NB (z + z + 1) (n, d) := fun {c n d} hc l => Red.nb (x := (n, d)) l (B 1 c hc)
  walk_at "go"
  refine ⟨a1, b1, _, _, _, _, z, rfl, f1, g1, S.a.pos, T.a.pos, S.a.bn, S.a.bd, T.a.bn, T.a.bd, by omega, fun x1 n1 d1 H1 l1 c1 h1 => ?_⟩
  have N1 := nb (c := du 1 s.1 t.1) (by unfold cs; simp) l1
  have ha := c1.sqT ha
  have hb := c1.sqT hb
  walk_at "go"
  refine ⟨a1, b2, _, _, _, _, z, rfl, c1.sqT f1, c1.sqT g2, S.a.pos, T.b.pos, S.a.bn, S.a.bd, T.b.bn, T.b.bd, by omega, fun x2 n2 d2 H2 l2 c2 h2 => ?_⟩
  have N2 := nb (c := du 1 s.1 t.2) (by unfold cs; simp) l2
  have ha := c2.sqT ha
  have hb := c2.sqT hb
  have c := c1.trans c2
  walk_at "go"
  refine ⟨a2, b1, _, _, _, _, z, rfl, c.sqT f2, c.sqT g1, S.b.pos, T.a.pos, S.b.bn, S.b.bd, T.a.bn, T.a.bd, by omega, fun x3 n3 d3 H3 l3 c3 h3 => ?_⟩
  have N3 := nb (c := du 1 s.2 t.1) (by unfold cs; simp) l3
  have ha := c3.sqT ha
  have hb := c3.sqT hb
  have c := c.trans c3
  walk_at "go"
  refine ⟨a2, b2, _, _, _, _, z, rfl, c.sqT f2, c.sqT g2, S.b.pos, T.b.pos, S.b.bn, S.b.bd, T.b.bn, T.b.bd, by omega, fun x4 n4 d4 H4 l4 c4 h4 => ?_⟩
  have N4 := nb (c := du 1 s.2 t.2) (by unfold cs; simp) l4
  have c := c.trans c4
  walk_at "go"
  refine w_newT (show 3 ≤ sizeLine by decide) fun tu H5 n5 c5 h5 => ?_
  have c := c.trans c5
  have h1 := c5.sqT (c4.sqT (c3.sqT (c2.sqT h1)))
  have h2 := c5.sqT (c4.sqT (c3.sqT h2))
  have h3 := c5.sqT (c4.sqT h3)
  have h4 := c5.sqT h4
  walk_at "go"
  refine w_iTr (.of h5) ?_
  have fin : ∀ (xa ya : Addr) (x y : Pr), MM [(n1, d1), (n2, d2), (n3, d3), (n4, d4)] x y → Fr K H5 xa x.1 x.2 → Fr K H5 ya y.1 y.2 → NewT [.ref xa, .ref ya] H5 Q := fun xa ya x y m fx fy => by
    refine w_newT (show 2 ≤ sizeLine by decide) fun tt H6 n6 c6 h6 => ?_
    exact q tt (x, y) H6 (ends_of (l := []) (r1 := (n1, d1)) (r2 := (n2, d2)) (r3 := (n3, d3)) (r4 := (n4, d4)) (du_pos S.a.pos T.a.pos) (du_pos S.a.pos T.b.pos) (du_pos S.b.pos T.a.pos) (du_pos S.b.pos T.b.pos) l1 l2 l3 l4 m) (c.trans c6) ⟨xa, ya, .of h6, c6.sqT fx, c6.sqT fy⟩
  let rs : List Pr := [(n1, d1), (n2, d2), (n3, d3), (n4, d4)]
  let as : List Addr := [x1, x2, x3, x4]
  have at_ : ∀ i : Nat, i < 4 → ∃ (v : Pr) (u : Addr), rs[i]? = some v ∧ as[i]? = some u ∧ Fr K H5 u v.1 v.2 ∧ NB (z + z + 1) v := fun i hi => by
    have h : i = 0 ∨ i = 1 ∨ i = 2 ∨ i = 3 := by omega
    rcases h with h | h | h | h <;> subst h
    · exact ⟨_, _, rfl, rfl, h1, N1⟩
    · exact ⟨_, _, rfl, rfl, h2, N2⟩
    · exact ⟨_, _, rfl, rfl, h3, N3⟩
    · exact ⟨_, _, rfl, rfl, h4, N4⟩
  have posr : ∀ r ∈ rs, 0 < r.2 := fun r hr => by
    obtain ⟨i, hi⟩ := List.getElem?_of_mem hr
    obtain ⟨v, u, e1, _, _, nv⟩ := at_ i (List.getElem?_eq_some_iff.mp hi).1
    rw [hi] at e1
    cases e1
    exact nv.pos
  refine for_T (xs := [.ref x2, .ref x3, .ref x4]) (fun i σ H' => H' = H5 ∧ ∃ (xa ya : Addr) (x y : Pr) (z5 : Option V), MM (rs.take (i + 1)) x y ∧ Fr K H5 xa x.1 x.2 ∧ Fr K H5 ya y.1 y.2 ∧ NB (z + z + 1) x ∧ NB (z + z + 1) y ∧ σ = [some (.ref a), some (.ref b), some (.ref xa), some (.ref ya), z5])
    ⟨rfl, x1, x1, (n1, d1), (n1, d1), none, MM.one _, h1, h1, N1, N1, rfl⟩ (fun i σ H' hi hp => by rw [hp.1]; exact .of h5) ?_ ?_
  · rintro i v σ H' hv ⟨rfl, xa, ya, x, y, z5, mm, fx, fy, nx, ny, rfl⟩
    have hi : i < 3 := (List.getElem?_eq_some_iff.mp hv).1
    obtain ⟨r, u, er, eu, fu, nu⟩ := at_ (i + 1) (by omega)
    have ev : v = .ref u := by
      have h : i = 0 ∨ i = 1 ∨ i = 2 := by omega
      rcases h with h | h | h <;> subst h <;> cases hv <;> cases eu <;> rfl
    subst ev
    have tk : rs.take (i + 1 + 1) = rs.take (i + 1) ++ [r] := by rw [List.take_add_one, er]; rfl
    have pt : ∀ c ∈ rs.take (i + 1), 0 < c.2 := fun c hc => posr c (List.mem_of_mem_take hc)
    walk_at "go"
    refine w_cut (M := fun σ' H2 => H2 = H' ∧ ∃ (xb : Addr) (x' : Pr), ((x' = r ∧ LeF r x) ∨ (x' = x ∧ LeF x r)) ∧ Fr K H' xb x'.1 x'.2 ∧ NB (z + z + 1) x' ∧ σ' = [some (.ref a), some (.ref b), some (.ref xb), some (.ref ya), some (.ref u)]) ?_ ?_
    · walk_at "go"
      refine ⟨u, xa, r.1, r.2, x.1, x.2, z + z + 1, rfl, fu, fx, nu.bn, nu.bd, nx.bn, nx.bd, by omega, ?_⟩
      walk_at "go"
      refine ite_d (fun k => ?_) (fun k => ?_)
      · have k := sgn_neg.mp k
        walk_at "go"
        exact ⟨rfl, u, r, .inl ⟨rfl, show r.1 * x.2 ≤ x.1 * r.2 by omega⟩, fu, nu, rfl⟩
      · have k := mt sgn_neg.mpr k
        walk_at "go"
        exact ⟨rfl, xa, x, .inr ⟨rfl, show x.1 * r.2 ≤ r.1 * x.2 by omega⟩, fx, nx, rfl⟩
    rintro σ' H2 ⟨rfl, xb, x', hx, fx, nx, rfl⟩
    walk_at "go"
    refine ⟨u, ya, r.1, r.2, y.1, y.2, z + z + 1, rfl, fu, fy, nu.bn, nu.bd, ny.bn, ny.bd, by omega, ?_⟩
    walk_at "go"
    refine ite_d (fun k => ?_) (fun k => ?_)
    · have k := sgn_pos.mp k
      walk_at "go"
      exact ⟨rfl, xb, u, x', r, _, by rw [tk]; exact mm.step pt nu.pos hx (.inl ⟨rfl, show y.1 * r.2 ≤ r.1 * y.2 by omega⟩), fx, fu, nx, nu, rfl⟩
    · have k := mt sgn_pos.mpr k
      walk_at "go"
      exact ⟨rfl, xb, ya, x', y, _, by rw [tk]; exact mm.step pt nu.pos hx (.inr ⟨rfl, show r.1 * y.2 ≤ y.1 * r.2 by omega⟩), fx, fy, nx, ny, rfl⟩
  · rintro σ H' ⟨rfl, xa, ya, x, y, z5, mm, fx, fy, nx, ny, rfl⟩
    walk_at "go"
    exact fin xa ya x y mm fx fy
end
end My
namespace My
open PySem PySem.Spec PyProof.Rows L2
section
variable {P : Program} {w : World} {K : PySem.W.Frag} {mg : Str → Option Value} {base : Heap}
abbrev s__law_stretch : Stmt := topS 50
theorem sc__law_stretch : FnScope ["box", "one", "way", "two"] ["box"] (defScope s__law_stretch) := ⟨rfl, rfl, rfl, by decide +kernel, rfl, by decide +kernel, by decide +kernel⟩
def sp__law_stretch (K : PySem.W.Frag) : Sp := fun vs H Q _ => ∃ (b : Addr), vs = [.ref b] ∧ RB H b ∧ ∀ (t : Addr) (s : Pr × Pr) H', NS 160 s → Ch [b] H H' → RB H' b → Sc K H' t s → Q (.ref t) H'
theorem Num.nb {n d : Int} (h : Num n d) : NB 160 (n, d) := ⟨h.pos, h.cop, h.b1, h.b2⟩
theorem c__law_stretch (C__law_take : Cal P w K mg base 1 "_law_take" sp__law_take) (C__law_number : Cal P w K mg base 4 "_law_number" (sp__law_number K)) (C__law_less : Cal P w K mg base 1 "_law_less" (sp__law_less K)) {f : Addr} {fd : FuncData} (F : DefF K mg "_law_stretch" s__law_stretch ["box"] f fd) : Cal P w K mg base 5 "_law_stretch" (sp__law_stretch K) := by
  refine cal_of F sc__law_stretch (fun vs H Q E h => by obtain ⟨_, rfl, _⟩ := h; rfl) (fun cdv A outer s0 H vs Q E hr h => ?_)
  obtain ⟨b, rfl, B, q⟩ := h
  refine ⟨_, (pss_cons (ps_set (i := 1) sc__law_stretch.nd rfl (Or.inl rfl) (pe_cc C__law_number hr (by decide) (by rfl) (pa_cons (pv 0) pa_nil)))
 (pss_cons (ps_set (i := 2) sc__law_stretch.nd rfl (Or.inl rfl) (pe_cc C__law_take hr (by decide) (by rfl) (pa_cons (pv 0) (pa_cons pe_int pa_nil))))
 (pss_cons (ps_if (pt_cmpR op_eq (pv 2) pe_int (nomark _)) (pss_one (ps_ret (pe_tup (pa_cons (pv 1) (pa_cons (pv 1) pa_nil))))) pss_nil)
 (pss_cons (ps_set (i := 3) sc__law_stretch.nd rfl (Or.inl rfl) (pe_cc C__law_number hr (by decide) (by rfl) (pa_cons (pv 0) pa_nil)))
 (Evl.pss_cut (ps_if (pt_cmpR op_eq (pv 2) pe_int (nomark _)) (pss_one (ps_set (i := 3) sc__law_stretch.nd rfl (Or.inl rfl) (pe_tup (pa_cons (pe_un un_neg (pe_ix (k_ixT (K := K) rfl) (pv 1) pe_int (fun _ _ => rfl))) (pa_cons (pe_ix (k_ixT (K := K) rfl) (pv 1) pe_int (fun _ _ => rfl)) pa_nil))))) pss_nil)
 (Evl.pss_cut (ps_if (pt_cmpR op_eq (pv 2) pe_int (nomark _)) (pss_one (ps_set (i := 3) sc__law_stretch.nd rfl (Or.inl rfl) (pe_tup (pa_cons pe_int (pa_cons pe_int pa_nil))))) pss_nil)
 (pss_cons (ps_if (pt_val (pe_cc C__law_less hr (by decide) (by rfl) (pa_cons (pv 3) (pa_cons (pv 1) pa_nil)))) (pss_one (ps_ret (pe_tup (pa_cons (pv 3) (pa_cons (pv 1) pa_nil))))) pss_nil)
 (pss_one (ps_ret (pe_tup (pa_cons (pv 1) (pa_cons (pv 3) pa_nil)))))))))))), ?_⟩
  refine w_start (σ := [some _, none, none, none]) rfl ?_
  walk_at "go"
  refine ⟨b, rfl, B, fun a n d H1 N c1 B fa => ?_⟩
  walk_at "go"
  refine ⟨b, 5, rfl, B, by decide, by decide +kernel, fun way H2 w0 w1 c2 B => ?_⟩
  have fa := c2.sqT fa
  have c := c1.trans c2
  walk_at "go"
  refine ite_d (fun h0 => ?_) (fun h0 => ?_)
  · walk_at "go"
    refine w_newT (show 2 ≤ sizeLine by decide) fun t H3 n3 c3 h3 => ?_
    exact q t ((n, d), (n, d)) H3 ⟨N.nb, N.nb, .refl _⟩ (c.trans0 c3) (B.mono c3) ⟨a, a, .of h3, c3.sqT fa, c3.sqT fa⟩
  walk_at "go"
  refine ⟨b, rfl, B, fun a2 n2 d2 H3 N2 c3 B f2 => ?_⟩
  have fa := c3.sqT fa
  have c := c.trans c3
  walk_at "go"
  refine w_cut (M := fun σ' H' => Ch [] H3 H' ∧ ∃ (a3 : Addr) (m e : Int), Num m e ∧ Fr K H' a3 m e ∧ σ' = [some (.ref b), some (.ref a), some (.int way), some (.ref a3)]) ?_ ?_
  · walk_at "go"
    refine ite_d (fun h1 => ?_) (fun h1 => ?_)
    · walk_at "go"
      refine w_newT (show 2 ≤ sizeLine by decide) fun t H4 n4 c4 h4 => ?_
      exact ⟨c4, t, -n, d, ⟨N.pos, by rw [Int.natAbs_neg]; exact N.cop, by rw [Int.natAbs_neg]; exact N.b1, N.b2⟩, .of h4, rfl⟩
    · walk_at "go"
      exact ⟨.refl, a2, n2, d2, N2, f2, rfl⟩
  rintro σ' H4 ⟨c4, a3, m, e, N3, f3, rfl⟩
  walk_at "go"
  refine w_cut (M := fun σ' H' => Ch [] H4 H' ∧ ∃ (a4 : Addr) (m e : Int), Num m e ∧ Fr K H' a4 m e ∧ σ' = [some (.ref b), some (.ref a), some (.int way), some (.ref a4)]) ?_ ?_
  · walk_at "go"
    refine ite_d (fun h1 => ?_) (fun h1 => ?_)
    · walk_at "go"
      refine w_newT (show 2 ≤ sizeLine by decide) fun t H5 n5 c5 h5 => ?_
      exact ⟨c5, t, 0, 1, ⟨by decide, by decide, by decide +kernel, by decide +kernel⟩, .of h5, rfl⟩
    · walk_at "go"
      exact ⟨.refl, a3, m, e, N3, f3, rfl⟩
  rintro σ' H5 ⟨c5, a4, m, e, N4, f4, rfl⟩
  have c := (c.trans0 c4).trans0 c5
  have B := (B.mono c4).mono c5
  have fa := c5.sqT (c4.sqT fa)
  walk_at "go"
  refine ⟨a4, a, m, e, n, d, 160, rfl, f4, fa, N4.b1, N4.b2, N.b1, N.b2, by decide, ?_⟩
  walk_at "go"
  refine ite_d (fun h2 => ?_) (fun h2 => ?_)
  · walk_at "go"
    refine w_newT (show 2 ≤ sizeLine by decide) fun t H6 n6 c6 h6 => ?_
    exact q t ((m, e), (n, d)) H6 ⟨N4.nb, N.nb, show m * d ≤ n * e by omega⟩ (c.trans0 c6) (B.mono c6) ⟨a4, a, .of h6, c6.sqT f4, c6.sqT fa⟩
  · walk_at "go"
    refine w_newT (show 2 ≤ sizeLine by decide) fun t H6 n6 c6 h6 => ?_
    exact q t ((n, d), (m, e)) H6 ⟨N.nb, N4.nb, show n * e ≤ m * d by omega⟩ (c.trans0 c6) (B.mono c6) ⟨a, a4, .of h6, c6.sqT fa, c6.sqT f4⟩
abbrev s__law_point : Stmt := topS 51
theorem sc__law_point : FnScope ["box", "stretch", "low", "high", "parts", "part", "top"] ["box", "stretch"] (defScope s__law_point) := ⟨rfl, rfl, rfl, by decide +kernel, rfl, by decide +kernel, by decide +kernel⟩
def sp__law_point (K : PySem.W.Frag) : Sp := fun vs H Q _ => ∃ (b t : Addr) (s : Pr × Pr), vs = [.ref b, .ref t] ∧ RB H b ∧ Sc K H t s ∧ NS 160 s ∧ ∀ (a : Addr) (x : Pr) H', NB 325 x → LeF s.1 x → LeF x s.2 → Ch [b] H H' → RB H' b → Fr K H' a x.1 x.2 → Q (.ref a) H'
theorem point_between {n d m e p k : Int} (d0 : 0 < d) (e0 : 0 < e) (p0 : 0 < p) (k0 : 0 ≤ k) (k1 : k ≤ p) (h : n * e ≤ m * d) :
    LeF (n, d) (n * e * (p - k) + m * d * k, d * e * p) ∧ LeF (n * e * (p - k) + m * d * k, d * e * p) (m, e) := by
  have a1 : n * e * k ≤ m * d * k := Int.mul_le_mul_of_nonneg_right h k0
  have a2 : n * e * (p - k) ≤ m * d * (p - k) := Int.mul_le_mul_of_nonneg_right h (by omega)
  have s1 : n * e * p = n * e * (p - k) + n * e * k := by rw [← Int.mul_add]; congr 1; omega
  have s2 : m * d * p = m * d * (p - k) + m * d * k := by rw [← Int.mul_add]; congr 1; omega
  constructor
  · show n * (d * e * p) ≤ (n * e * (p - k) + m * d * k) * d
    have q : n * e * p * d ≤ (n * e * (p - k) + m * d * k) * d := Int.mul_le_mul_of_nonneg_right (by omega) (Int.le_of_lt d0)
    have e1 : n * (d * e * p) = n * e * p * d := by simp only [Int.mul_assoc, Int.mul_left_comm, Int.mul_comm]
    rw [e1]
    exact q
  · show (n * e * (p - k) + m * d * k) * e ≤ m * (d * e * p)
    have q : (n * e * (p - k) + m * d * k) * e ≤ m * d * p * e := Int.mul_le_mul_of_nonneg_right (by omega) (Int.le_of_lt e0)
    have e1 : m * (d * e * p) = m * d * p * e := by simp only [Int.mul_assoc, Int.mul_left_comm, Int.mul_comm]
    rw [e1]
    exact q
theorem c__law_point (C__law_take : Cal P w K mg base 1 "_law_take" sp__law_take) (C__law_lowest : Cal P w K mg base 2 "_law_lowest" (sp__law_lowest K)) {f : Addr} {fd : FuncData} (F : DefF K mg "_law_point" s__law_point ["box", "stretch"] f fd) : Cal P w K mg base 3 "_law_point" (sp__law_point K) := by
  refine cal_of F sc__law_point (fun vs H Q E h => by obtain ⟨_, _, _, rfl, _⟩ := h; rfl) (fun cdv A outer s0 H vs Q E hr h => ?_)
  obtain ⟨b, t, ⟨⟨n, d⟩, ⟨m, e⟩⟩, rfl, B, ⟨a1, a2, ht, f1, f2⟩, S, q⟩ := h
  have f1 : Fr K H a1 n d := f1
  have f2 : Fr K H a2 m e := f2
  have d0 : 0 < d := S.a.pos
  have e0 : 0 < e := S.b.pos
  have bn : n.natAbs < 2 ^ 160 := S.a.bn
  have bd : d.natAbs < 2 ^ 160 := S.a.bd
  have bm : m.natAbs < 2 ^ 160 := S.b.bn
  have be : e.natAbs < 2 ^ 160 := S.b.bd
  have ne := mulb bn be
  have md := mulb bm bd
  have de := mulb bd be
  refine ⟨_, (pss_cons (ps_set (i := 2) sc__law_point.nd rfl (Or.inl rfl) (pe_ix (k_ixT (K := K) rfl) (pv 1) pe_int (fun _ _ => rfl)))
 (pss_cons (ps_set (i := 3) sc__law_point.nd rfl (Or.inl rfl) (pe_ix (k_ixT (K := K) rfl) (pv 1) pe_int (fun _ _ => rfl)))
 (pss_cons (ps_set (i := 4) sc__law_point.nd rfl (Or.inl rfl) (pe_op op_add pe_int (pe_cc C__law_take hr (by decide) (by rfl) (pa_cons (pv 0) (pa_cons pe_int pa_nil)))))
 (pss_cons (ps_set (i := 5) sc__law_point.nd rfl (Or.inl rfl) (pe_cc C__law_take hr (by decide) (by rfl) (pa_cons (pv 0) (pa_cons (pe_op op_add (pv 4) pe_int) pa_nil))))
 (pss_cons (ps_set (i := 6) sc__law_point.nd rfl (Or.inl rfl) (pe_op op_add (pe_op op_mulG (pe_op op_mulG (pe_ix (k_ixT (K := K) rfl) (pv 2) pe_int (fun _ _ => rfl)) (pe_ix (k_ixT (K := K) rfl) (pv 3) pe_int (fun _ _ => rfl))) (pe_op op_sub (pv 4) (pv 5))) (pe_op op_mulG (pe_op op_mulG (pe_ix (k_ixT (K := K) rfl) (pv 3) pe_int (fun _ _ => rfl)) (pe_ix (k_ixT (K := K) rfl) (pv 2) pe_int (fun _ _ => rfl))) (pv 5))))
 (pss_one (ps_ret (pe_cc C__law_lowest hr (by decide) (by rfl) (pa_cons (pv 6) (pa_cons (pe_op op_mulG (pe_op op_mulG (pe_ix (k_ixT (K := K) rfl) (pv 2) pe_int (fun _ _ => rfl)) (pe_ix (k_ixT (K := K) rfl) (pv 3) pe_int (fun _ _ => rfl))) (pv 4)) pa_nil)))))))))), ?_⟩
  refine w_start (σ := [some _, some _, none, none, none, none, none]) rfl ?_
  walk_at "go"
  refine ⟨b, 9, rfl, B, by decide, by decide +kernel, fun r H1 r0 r1 c1 B => ?_⟩
  have f1 := c1.sqT f1
  have f2 := c1.sqT f2
  walk_at "go"
  refine ⟨b, 1 + r + 1, rfl, B, by omega, ?_, fun k H2 k0 k1 c2 B => ?_⟩
  · exact Nat.lt_of_lt_of_le (show (1 + r + 1).natAbs < 16 by omega) (by decide +kernel)
  have f1 := c2.sqT f1
  have f2 := c2.sqT f2
  have pk : (1 + r - k).natAbs < 2 ^ 4 := by omega
  have pp : (1 + r).natAbs < 2 ^ 4 := by omega
  have kk : k.natAbs < 2 ^ 4 := by omega
  have x1 : (n * e * (1 + r - k)).natAbs < 2 ^ 324 := mulb ne pk
  have x2 : (m * d * k).natAbs < 2 ^ 324 := mulb md kk
  have x3 : (d * e * (1 + r)).natAbs < 2 ^ 324 := mulb de pp
  walk_at "go"
  refine w_I (mul_ok bn be (by decide)) ?_
  walk_at "go"
  refine w_I (mul_ok ne pk (by decide)) ?_
  walk_at "go"
  refine w_I (mul_ok bm bd (by decide)) ?_
  walk_at "go"
  refine w_I (mul_ok md kk (by decide)) ?_
  walk_at "go"
  refine w_I (mul_ok bd be (by decide)) ?_
  walk_at "go"
  refine w_I (mul_ok de pp (by decide)) ?_
  walk_at "go"
  have p3 : 0 < d * e * (1 + r) := Int.mul_pos (Int.mul_pos d0 e0) (by omega)
  have pb := point_between d0 e0 (show 0 < 1 + r by omega) k0 (show k ≤ 1 + r by omega) S.le
  refine ⟨_, _, rfl, by omega, abs_mono x3 (by decide), fun a x y H3 lo c3 f3 => ?_⟩
  have rd : Red (n * e * (1 + r - k) + m * d * k, d * e * (1 + r)) (x, y) := lo
  have nb : NB 325 (x, y) := rd.nb ⟨by
    show (n * e * (1 + r - k) + m * d * k).natAbs < 2 ^ 325
    rw [show (2 : Nat) ^ 325 = 2 ^ 324 * 2 by decide +kernel]
    omega, abs_mono x3 (by decide)⟩
  exact q a (x, y) H3 nb (LeF.trans (y := (n * e * (1 + r - k) + m * d * k, d * e * (1 + r))) p3 d0 nb.pos pb.1 rd.le2) (LeF.trans (y := (n * e * (1 + r - k) + m * d * k, d * e * (1 + r))) p3 nb.pos e0 rd.le1 pb.2) ((c1.trans c2).trans0 c3) (B.mono c3) f3
abbrev s__law_due : Stmt := topS 52
theorem sc__law_due : FnScope ["deed", "a", "b"] ["deed", "a", "b"] (defScope s__law_due) := ⟨rfl, rfl, rfl, by decide +kernel, rfl, by decide +kernel, by decide +kernel⟩
def sp__law_due (K : PySem.W.Frag) : Sp := fun vs H Q _ => ∃ (a b : Addr) (deed : Int) (x y : Pr) (z1 z2 : Nat), vs = [.int deed, .ref a, .ref b] ∧ (deed = 0 ∨ deed = 1) ∧ Fr K H a x.1 x.2 ∧ Fr K H b y.1 y.2 ∧ NB z1 x ∧ NB z2 y ∧ z1 + z2 ≤ 1990 ∧
  ∀ (t : Addr) (r : Pr) H', Red (du deed x y) r → Ch [] H H' → Fr K H' t r.1 r.2 → Q (.ref t) H'
theorem c__law_due (C__law_lowest : Cal P w K mg base 2 "_law_lowest" (sp__law_lowest K)) {f : Addr} {fd : FuncData} (F : DefF K mg "_law_due" s__law_due ["deed", "a", "b"] f fd) : Cal P w K mg base 3 "_law_due" (sp__law_due K) := by
  refine cal_of F sc__law_due (fun vs H Q E h => by obtain ⟨_, _, _, _, _, _, _, rfl, _⟩ := h; rfl) (fun cdv A outer s0 H vs Q E hr h => ?_)
  obtain ⟨a, b, deed, ⟨n, d⟩, ⟨m, e⟩, z1, z2, rfl, hd, fa, fb, N, M, hz, q⟩ := h
  have fa : Fr K H a n d := fa
  have fb : Fr K H b m e := fb
  have bn : n.natAbs < 2 ^ z1 := N.bn
  have bd : d.natAbs < 2 ^ z1 := N.bd
  have bm : m.natAbs < 2 ^ z2 := M.bn
  have be : e.natAbs < 2 ^ z2 := M.bd
  have p0 : 0 < d * e := Int.mul_pos N.pos M.pos
  refine ⟨_, (pss_cons (ps_if (pt_cmpR op_eq (pv 0) pe_int (nomark _)) (pss_one (ps_ret (pe_cc C__law_lowest hr (by decide) (by rfl) (pa_cons (pe_op op_add (pe_op op_mulG (pe_ix (k_ixT (K := K) rfl) (pv 1) pe_int (fun _ _ => rfl)) (pe_ix (k_ixT (K := K) rfl) (pv 2) pe_int (fun _ _ => rfl))) (pe_op op_mulG (pe_ix (k_ixT (K := K) rfl) (pv 2) pe_int (fun _ _ => rfl)) (pe_ix (k_ixT (K := K) rfl) (pv 1) pe_int (fun _ _ => rfl)))) (pa_cons (pe_op op_mulG (pe_ix (k_ixT (K := K) rfl) (pv 1) pe_int (fun _ _ => rfl)) (pe_ix (k_ixT (K := K) rfl) (pv 2) pe_int (fun _ _ => rfl))) pa_nil))))) pss_nil)
 (pss_one (ps_ret (pe_cc C__law_lowest hr (by decide) (by rfl) (pa_cons (pe_op op_mulG (pe_ix (k_ixT (K := K) rfl) (pv 1) pe_int (fun _ _ => rfl)) (pe_ix (k_ixT (K := K) rfl) (pv 2) pe_int (fun _ _ => rfl))) (pa_cons (pe_op op_mulG (pe_ix (k_ixT (K := K) rfl) (pv 1) pe_int (fun _ _ => rfl)) (pe_ix (k_ixT (K := K) rfl) (pv 2) pe_int (fun _ _ => rfl))) pa_nil)))))), ?_⟩
  refine w_start (σ := [some _, some _, some _]) rfl ?_
  walk_at "go"
  rcases hd with h | h <;> subst h
  · refine ite_dt rfl ?_
    walk_at "go"
    refine w_I (mul_ok bn be (by omega)) ?_
    walk_at "go"
    refine w_I (mul_ok bm bd (by omega)) ?_
    walk_at "go"
    refine w_I (mul_ok bd be (by omega)) ?_
    walk_at "go"
    exact ⟨_, _, rfl, by omega, abs_mono (mulb bd be) (by omega), fun t x y H' l c ft => q t (x, y) H' l c ft⟩
  · refine ite_df (by decide) ?_
    walk_at "go"
    refine w_I (mul_ok bn bm (by omega)) ?_
    walk_at "go"
    refine w_I (mul_ok bd be (by omega)) ?_
    walk_at "go"
    exact ⟨_, _, rfl, by omega, abs_mono (mulb bd be) (by omega), fun t x y H' l c ft => q t (x, y) H' l c ft⟩
abbrev s__law_joined : Stmt := topS 53
theorem sc__law_joined : FnScope ["deed", "s", "t"] ["deed", "s", "t"] (defScope s__law_joined) := ⟨rfl, rfl, rfl, by decide +kernel, rfl, by decide +kernel, by decide +kernel⟩
def sp__law_joined (K : PySem.W.Frag) : Sp := fun vs H Q E => ∃ (deed : Int) (ws : List V), vs = .int deed :: ws ∧ (deed = 0 ∨ deed = 1) ∧ ws.length = 2 ∧ sp_join K deed ws H Q E
theorem c__law_joined (C_stretch_plus : Cal P w K mg base 3 "stretch_plus" (sp_join K 0)) (C_stretch_times : Cal P w K mg base 3 "stretch_times" (sp_join K 1)) {f : Addr} {fd : FuncData} (F : DefF K mg "_law_joined" s__law_joined ["deed", "s", "t"] f fd) : Cal P w K mg base 4 "_law_joined" (sp__law_joined K) := by
  refine cal_of F sc__law_joined (fun vs H Q E h => by obtain ⟨_, ws, rfl, _, h, _⟩ := h; show ws.length + 1 = 3; omega) (fun cdv A outer s0 H vs Q E hr h => ?_)
  obtain ⟨deed, _, rfl, hd, _, ⟨a, b, s, t, z, rfl, q⟩⟩ := h
  refine ⟨_, (pss_cons (ps_if (pt_cmpR op_eq (pv 0) pe_int (nomark _)) (pss_one (ps_ret (pe_cc C_stretch_plus hr (by decide) (by rfl) (pa_cons (pv 1) (pa_cons (pv 2) pa_nil))))) pss_nil)
 (pss_one (ps_ret (pe_cc C_stretch_times hr (by decide) (by rfl) (pa_cons (pv 1) (pa_cons (pv 2) pa_nil)))))), ?_⟩
  refine w_start (σ := [some _, some _, some _]) rfl ?_
  walk_at "go"
  rcases hd with h | h <;> subst h
  · refine ite_dt rfl ?_
    walk_at "go"
    exact ⟨a, b, s, t, z, rfl, q⟩
  · refine ite_df (by decide) ?_
    walk_at "go"
    exact ⟨a, b, s, t, z, rfl, q⟩
end
end My
namespace My
open PySem PySem.Spec PyProof.Rows L2
section
variable {P : Program} {w : World} {K : PySem.W.Frag} {mg : Str → Option Value} {base : Heap}
abbrev s__law_joined_holds : Stmt := topS 54
theorem sc__law_joined_holds : FnScope ["deed", "told", "s", "t", "corners", "low", "high", "corner"] ["deed", "told", "s", "t"] (defScope s__law_joined_holds) := ⟨rfl, rfl, rfl, by decide +kernel, rfl, by decide +kernel, by decide +kernel⟩
def sp__law_joined_holds (K : PySem.W.Frag) : Sp := fun vs H Q _ => ∃ (deed : Int) (tt a b : Addr) (u s t : Pr × Pr) (z1 z2 : Nat), vs = [.int deed, .ref tt, .ref a, .ref b] ∧ (deed = 0 ∨ deed = 1) ∧ Sc K H tt u ∧ Sc K H a s ∧ Sc K H b t ∧ NS z1 s ∧ NS z2 t ∧ z1 + z2 ≤ 1900 ∧ Ends (cs deed s t) u ∧ ∀ H', Ch [] H H' → Q (.bl true) H'
theorem c__law_joined_holds (T : Txt mg) (C__law_due : Cal P w K mg base 3 "_law_due" (sp__law_due K)) (C__law_less : Cal P w K mg base 1 "_law_less" (sp__law_less K)) (C__law_same : Cal P w K mg base 2 "_law_same" (sp__law_same K)) {f : Addr} {fd : FuncData} (F : DefF K mg "_law_joined_holds" s__law_joined_holds ["deed", "told", "s", "t"] f fd) :
    Cal P w K mg base 4 "_law_joined_holds" (sp__law_joined_holds K) := by
  refine cal_of F sc__law_joined_holds (fun vs H Q E h => by obtain ⟨_, _, _, _, _, _, _, _, _, rfl, _⟩ := h; rfl) (fun cdv A outer s0 H vs Q E hr h => ?_)
  obtain ⟨deed, tt, a, b, u, s, t, z1, z2, rfl, hd, ⟨t1, t2, htt, ft1, ft2⟩, ⟨a1, a2, ha, f1, f2⟩, ⟨b1, b2, hb, g1, g2⟩, S, T2, hz, En, q⟩ := h
  refine ⟨_, (pss_cons (ps_set (i := 4) sc__law_joined_holds.nd rfl (Or.inl rfl) (pe_lst (pa_cons (pe_cc C__law_due hr (by decide) (by rfl) (pa_cons (pv 0) (pa_cons (pe_ix (k_ixT (K := K) rfl) (pv 2) pe_int (fun _ _ => rfl)) (pa_cons (pe_ix (k_ixT (K := K) rfl) (pv 3) pe_int (fun _ _ => rfl)) pa_nil)))) (pa_cons (pe_cc C__law_due hr (by decide) (by rfl) (pa_cons (pv 0) (pa_cons (pe_ix (k_ixT (K := K) rfl) (pv 2) pe_int (fun _ _ => rfl)) (pa_cons (pe_ix (k_ixT (K := K) rfl) (pv 3) pe_int (fun _ _ => rfl)) pa_nil)))) pa_nil))))
 (pss_cons (ps_set (i := 4) sc__law_joined_holds.nd rfl (Or.inl rfl) (pe_op op_cat (pv 4) (pe_lst (pa_cons (pe_cc C__law_due hr (by decide) (by rfl) (pa_cons (pv 0) (pa_cons (pe_ix (k_ixT (K := K) rfl) (pv 2) pe_int (fun _ _ => rfl)) (pa_cons (pe_ix (k_ixT (K := K) rfl) (pv 3) pe_int (fun _ _ => rfl)) pa_nil)))) (pa_cons (pe_cc C__law_due hr (by decide) (by rfl) (pa_cons (pv 0) (pa_cons (pe_ix (k_ixT (K := K) rfl) (pv 2) pe_int (fun _ _ => rfl)) (pa_cons (pe_ix (k_ixT (K := K) rfl) (pv 3) pe_int (fun _ _ => rfl)) pa_nil)))) pa_nil)))))
 (pss_cons (ps_set (i := 5) sc__law_joined_holds.nd rfl (Or.inl rfl) (pe_ix (k_ixL (K := K) rfl) (pv 4) pe_int (fun _ _ => rfl)))
 (pss_cons (ps_set (i := 6) sc__law_joined_holds.nd rfl (Or.inl rfl) (pe_ix (k_ixL (K := K) rfl) (pv 4) pe_int (fun _ _ => rfl)))
 (pss_cons (ps_for PassesOwn.never rfl (k_piL (K := K) rfl (pv 4)) (pg_name (i := 7) sc__law_joined_holds.nd rfl (Or.inl rfl)) (Evl.pss_cut (ps_if (pt_val (pe_cc C__law_less hr (by decide) (by rfl) (pa_cons (pv 7) (pa_cons (pv 5) pa_nil)))) (pss_one (ps_set (i := 5) sc__law_joined_holds.nd rfl (Or.inl rfl) (pv 7))) pss_nil)
 (pss_one (ps_if (pt_val (pe_cc C__law_less hr (by decide) (by rfl) (pa_cons (pv 6) (pa_cons (pv 7) pa_nil)))) (pss_one (ps_set (i := 6) sc__law_joined_holds.nd rfl (Or.inl rfl) (pv 7))) pss_nil))))
 (pss_cons (ps_if (PW.pt (pw_or (pt_not (pt_val (pe_callB (k_isi (K := K) rfl) (by rfl) T.z_isinstance (by decide +kernel) (pa_cons (pv 1) (pa_cons (pe_bltn (by rfl) T.z_tuple (by decide +kernel) (v := .ty "tuple") rfl) pa_nil))))) (pw_or1 (pt_cmpR op_ne (pe_callB (k_len (K := K) rfl) (by rfl) T.z_len PySem.boot_len (pa_cons (pv 1) pa_nil)) pe_int (nomark _))))) (pss_one (ps_ret pe_bl)) pss_nil)
 (pss_one (ps_ret (pe_and (pe_cc C__law_same hr (by decide) (by rfl) (pa_cons (pe_ix (k_ixT (K := K) rfl) (pv 1) pe_int (fun _ _ => rfl)) (pa_cons (pv 5) pa_nil))) (pe_one (pe_cc C__law_same hr (by decide) (by rfl) (pa_cons (pe_ix (k_ixT (K := K) rfl) (pv 1) pe_int (fun _ _ => rfl)) (pa_cons (pv 6) pa_nil))))))))))))), ?_⟩
  refine w_start (σ := [some _, some _, some _, some _, none, none, none, none]) rfl ?_
  have B := cs_bd (deed := deed) S T2
  have nb : ∀ {c r : Pr}, c ∈ cs deed s t → Red c r → NB (z1 + z2 + 1) r := fun {c r} hc l => l.nb (B c hc)
  walk_at "go"
  refine ⟨a1, b1, deed, s.1, t.1, z1, z2, rfl, hd, f1, g1, S.a, T2.a, by omega, fun x1 r1 H1 l1 c1 h1 => ?_⟩
  have N1 := nb (by unfold cs; simp) l1
  have ha := c1.sqT ha
  have hb := c1.sqT hb
  walk_at "go"
  refine ⟨a1, b2, deed, s.1, t.2, z1, z2, rfl, hd, c1.sqT f1, c1.sqT g2, S.a, T2.b, by omega, fun x2 r2 H2 l2 c2 h2 => ?_⟩
  have N2 := nb (by unfold cs; simp) l2
  have c := c1.trans c2
  have ha := c2.sqT ha
  have hb := c2.sqT hb
  walk_at "go"
  refine w_newL (show 2 ≤ sizeLine by decide) fun p1 H3 n3 c3 hp1 => ?_
  have c := c.trans c3
  have ha := c3.sqT ha
  have hb := c3.sqT hb
  walk_at "go"
  refine ⟨a2, b1, deed, s.2, t.1, z1, z2, rfl, hd, c.sqT f2, c.sqT g1, S.b, T2.a, by omega, fun x3 r3 H4 l3 c4 h3 => ?_⟩
  have N3 := nb (by unfold cs; simp) l3
  have c := c.trans c4
  have ha := c4.sqT ha
  have hb := c4.sqT hb
  walk_at "go"
  refine ⟨a2, b2, deed, s.2, t.2, z1, z2, rfl, hd, c.sqT f2, c.sqT g2, S.b, T2.b, by omega, fun x4 r4 H5 l4 c5 h4 => ?_⟩
  have N4 := nb (by unfold cs; simp) l4
  have c := c.trans c5
  walk_at "go"
  refine w_newL (show 2 ≤ sizeLine by decide) fun p2 H6 n6 c6 hp2 => ?_
  have c := c.trans c6
  walk_at "go"
  refine w_cat (c6.at0 (c5.at0 (c4.at0 hp1))) hp2 (show 2 + 2 ≤ sizeLine by decide) fun p3 H7 n7 c7 hp3 => ?_
  have c := c.trans c7
  have hp3 : H7 p3 = some (.lst [.ref x1, .ref x2, .ref x3, .ref x4]) := hp3
  have h1 := c7.sqT (c6.sqT (c5.sqT (c4.sqT (c3.sqT (c2.sqT h1)))))
  have h2 := c7.sqT (c6.sqT (c5.sqT (c4.sqT (c3.sqT h2))))
  have h3 := c7.sqT (c6.sqT (c5.sqT h3))
  have h4 := c7.sqT (c6.sqT h4)
  have htt := c.sqT htt
  have ft1 := c.sqT ft1
  have ft2 := c.sqT ft2
  walk_at "go"
  refine w_iLr (.of hp3) ?_
  let rs : List Pr := [r1, r2, r3, r4]
  have at_ : ∀ i : Nat, i < 4 → ∃ (v : Pr) (u : Addr), rs[i]? = some v ∧ [V.ref x1, V.ref x2, V.ref x3, V.ref x4][i]? = some (.ref u) ∧ Fr K H7 u v.1 v.2 ∧ NB (z1 + z2 + 1) v := fun i hi => by
    have h : i = 0 ∨ i = 1 ∨ i = 2 ∨ i = 3 := by omega
    rcases h with h | h | h | h <;> subst h
    · exact ⟨_, _, rfl, rfl, h1, N1⟩
    · exact ⟨_, _, rfl, rfl, h2, N2⟩
    · exact ⟨_, _, rfl, rfl, h3, N3⟩
    · exact ⟨_, _, rfl, rfl, h4, N4⟩
  have posr : ∀ r ∈ rs, 0 < r.2 := fun r hr => by
    obtain ⟨i, hi⟩ := List.getElem?_of_mem hr
    obtain ⟨v, u, e1, _, _, nv⟩ := at_ i (List.getElem?_eq_some_iff.mp hi).1
    rw [hi] at e1
    cases e1
    exact nv.pos
  refine for_Lx (a := p3) (xs := [V.ref x1, V.ref x2, V.ref x3, V.ref x4]) (fun i σ H' => H' = H7 ∧ ∃ (xa ya : Addr) (x y : Pr) (z7 : Option V), ((i = 0 ∧ x = r1 ∧ y = r1) ∨ (0 < i ∧ MM (rs.take i) x y)) ∧ Fr K H7 xa x.1 x.2 ∧ Fr K H7 ya y.1 y.2 ∧ NB (z1 + z2 + 1) x ∧ NB (z1 + z2 + 1) y ∧ σ = [some (.int deed), some (.ref tt), some (.ref a), some (.ref b), some (.ref p3), some (.ref xa), some (.ref ya), z7])
    ⟨rfl, x1, x1, r1, r1, none, .inl ⟨rfl, rfl, rfl⟩, h1, h1, N1, N1, rfl⟩ (fun i σ H' hp => by rw [hp.1]; exact .of hp3) ?_ ?_
  · rintro i v σ H' hv ⟨rfl, xa, ya, x, y, z7, mm, fx, fy, nx, ny, rfl⟩
    have hi : i < 4 := (List.getElem?_eq_some_iff.mp hv).1
    obtain ⟨r, u, er, eu, fu, nu⟩ := at_ i hi
    rw [hv] at eu
    cases eu
    have tk : rs.take (i + 1) = rs.take i ++ [r] := by rw [List.take_add_one, er]; rfl
    have pt : ∀ c ∈ rs.take i, 0 < c.2 := fun c hc => posr c (List.mem_of_mem_take hc)
    have step : ∀ x' y' : Pr, (x' = r ∧ LeF r x) ∨ (x' = x ∧ LeF x r) → (y' = r ∧ LeF y r) ∨ (y' = y ∧ LeF r y) → MM (rs.take (i + 1)) x' y' := fun x' y' hx hy => by
      rcases mm with ⟨e0, e1, e2⟩ | ⟨_, m⟩
      · subst e0
        have er : r1 = r := by cases er; rfl
        have ex : x' = r := by rcases hx with ⟨e, _⟩ | ⟨e, _⟩ <;> rw [e] <;> rw [e1, er]
        have ey : y' = r := by rcases hy with ⟨e, _⟩ | ⟨e, _⟩ <;> rw [e] <;> rw [e2, er]
        rw [ex, ey, show rs.take (0 + 1) = [r] by rw [← er]; rfl]
        exact MM.one r
      · rw [tk]
        exact m.step pt nu.pos hx hy
    walk_at "go"
    refine w_cut (M := fun σ' H2 => H2 = H' ∧ ∃ (xb : Addr) (x' : Pr), ((x' = r ∧ LeF r x) ∨ (x' = x ∧ LeF x r)) ∧ Fr K H' xb x'.1 x'.2 ∧ NB (z1 + z2 + 1) x' ∧ σ' = [some (.int deed), some (.ref tt), some (.ref a), some (.ref b), some (.ref p3), some (.ref xb), some (.ref ya), some (.ref u)]) ?_ ?_
    · walk_at "go"
      refine ⟨u, xa, r.1, r.2, x.1, x.2, z1 + z2 + 1, rfl, fu, fx, nu.bn, nu.bd, nx.bn, nx.bd, by omega, ?_⟩
      walk_at "go"
      refine ite_d (fun k => ?_) (fun k => ?_)
      · walk_at "go"
        exact ⟨rfl, u, r, .inl ⟨rfl, show r.1 * x.2 ≤ x.1 * r.2 by omega⟩, fu, nu, rfl⟩
      · walk_at "go"
        exact ⟨rfl, xa, x, .inr ⟨rfl, show x.1 * r.2 ≤ r.1 * x.2 by omega⟩, fx, nx, rfl⟩
    rintro σ' H2 ⟨rfl, xb, x', hx, fx, nx, rfl⟩
    walk_at "go"
    refine ⟨ya, u, y.1, y.2, r.1, r.2, z1 + z2 + 1, rfl, fy, fu, ny.bn, ny.bd, nu.bn, nu.bd, by omega, ?_⟩
    walk_at "go"
    refine ite_d (fun k => ?_) (fun k => ?_)
    · walk_at "go"
      exact ⟨rfl, xb, u, x', r, _, .inr ⟨by omega, step x' r hx (.inl ⟨rfl, show y.1 * r.2 ≤ r.1 * y.2 by omega⟩)⟩, fx, fu, nx, nu, rfl⟩
    · walk_at "go"
      exact ⟨rfl, xb, ya, x', y, _, .inr ⟨by omega, step x' y hx (.inr ⟨rfl, show r.1 * y.2 ≤ y.1 * r.2 by omega⟩)⟩, fx, fy, nx, ny, rfl⟩
  rintro σ H' ⟨rfl, xa, ya, x, y, z7, mm, fx, fy, nx, ny, rfl⟩
  have mm : MM [r1, r2, r3, r4] x y := by
    rcases mm with ⟨e0, _⟩ | ⟨_, m⟩
    · exact absurd e0 (show (4 : Nat) ≠ 0 by decide)
    · exact m
  have En2 := ends_of (l := []) (du_pos S.a.pos T2.a.pos) (du_pos S.a.pos T2.b.pos) (du_pos S.b.pos T2.a.pos) (du_pos S.b.pos T2.b.pos) l1 l2 l3 l4 mm
  have eu : u = (x, y) := Ends.uniq (cs_pos S.str T2.str) En En2
  subst eu
  have ft1 : Fr K H' t1 x.1 x.2 := ft1
  have ft2 : Fr K H' t2 y.1 y.2 := ft2
  walk_at "go"
  refine w_isiTT htt ?_
  walk_at "go"
  refine ite_f ?_
  walk_at "go"
  refine w_lenT htt ?_
  walk_at "go"
  refine ite_f ?_
  walk_at "go"
  refine ⟨t1, xa, _, _, rfl, ft1, fx, (show 2 ≤ 1000 by decide), (show 2 ≤ 1000 by decide), ?_⟩
  rw [decide_eq_true rfl]
  walk_at "go"
  refine ite_t ?_
  walk_at "go"
  refine ⟨t2, ya, _, _, rfl, ft2, fy, (show 2 ≤ 1000 by decide), (show 2 ≤ 1000 by decide), ?_⟩
  rw [decide_eq_true rfl]
  exact q _ c
end
end My
namespace My
open PySem PySem.Spec PyProof.Rows L2
section
variable {P : Program} {w : World} {K : PySem.W.Frag} {mg : Str → Option Value} {base : Heap}
theorem Ends.inside {deed : Int} {s t u : Pr × Pr} {x y r : Pr} (hd : deed = 0 ∨ deed = 1) (S : Str2 s) (T : Str2 t) (hx : 0 < x.2) (hy : 0 < y.2) (a : LeF s.1 x) (b : LeF x s.2) (c : LeF t.1 y) (d : LeF y t.2) (En : Ends (cs deed s t) u) (rd : Red (du deed x y) r) (pu1 : 0 < u.1.2) (pu2 : 0 < u.2.2) :
    LeF u.1 r ∧ LeF r u.2 := by
  obtain ⟨⟨v, hv, hv2⟩, ⟨v', hv', hv2'⟩⟩ := corners_in hd S T hx hy a b c d
  have pd := du_pos (deed := deed) hx hy
  have pv := cs_pos S T v hv
  have pv' := cs_pos S T v' hv'
  exact ⟨((En.le v hv).1.trans pv pu1 pd hv2).trans pd pu1 rd.pos rd.le2, rd.le1.trans pd rd.pos pu2 (hv2'.trans pv' pd pu2 (En.le v' hv').2)⟩
abbrev s__law_stretches_hold : Stmt := topS 55
theorem sc__law_stretches_hold : FnScope ["box", "told", "point", "turn", "other", "deed", "made"] ["box"] (defScope s__law_stretches_hold) := ⟨rfl, rfl, rfl, by decide +kernel, rfl, by decide +kernel, by decide +kernel⟩
theorem c__law_stretches_hold (T : Txt mg) (C__law_stretch : Cal P w K mg base 5 "_law_stretch" (sp__law_stretch K)) (C__law_point : Cal P w K mg base 3 "_law_point" (sp__law_point K)) (C__law_take : Cal P w K mg base 1 "_law_take" sp__law_take) (C__law_joined : Cal P w K mg base 4 "_law_joined" (sp__law_joined K))
    (C__law_joined_holds : Cal P w K mg base 4 "_law_joined_holds" (sp__law_joined_holds K)) (C__law_due : Cal P w K mg base 3 "_law_due" (sp__law_due K)) (C__law_less : Cal P w K mg base 1 "_law_less" (sp__law_less K)) {f : Addr} {fd : FuncData} (F : DefF K mg "_law_stretches_hold" s__law_stretches_hold ["box"] f fd) :
    Cal P w K mg base 6 "_law_stretches_hold" sp__law_texts_hold := by
  refine cal_of F sc__law_stretches_hold (fun vs H Q E h => by obtain ⟨_, rfl, _⟩ := h; rfl) (fun cdv A outer s0 H vs Q E hr h => ?_)
  obtain ⟨b, rfl, B, q⟩ := h
  refine ⟨_, (pss_cons (ps_set (i := 1) sc__law_stretches_hold.nd rfl (Or.inl rfl) (pe_cc C__law_stretch hr (by decide) (by rfl) (pa_cons (pv 0) pa_nil)))
 (pss_cons (ps_set (i := 2) sc__law_stretches_hold.nd rfl (Or.inl rfl) (pe_cc C__law_point hr (by decide) (by rfl) (pa_cons (pv 0) (pa_cons (pv 1) pa_nil))))
 (pss_cons (ps_for PassesOwn.never rfl (pi_range1 (by rfl) T.z_range (pa_cons (pe_op op_add pe_int (pe_cc C__law_take hr (by decide) (by rfl) (pa_cons (pv 0) (pa_cons pe_int pa_nil)))) pa_nil)) (pg_name (i := 3) sc__law_stretches_hold.nd rfl (Or.inl rfl)) (pss_cons (ps_set (i := 4) sc__law_stretches_hold.nd rfl (Or.inl rfl) (pe_cc C__law_stretch hr (by decide) (by rfl) (pa_cons (pv 0) pa_nil)))
 (pss_cons (ps_set (i := 5) sc__law_stretches_hold.nd rfl (Or.inl rfl) (pe_cc C__law_take hr (by decide) (by rfl) (pa_cons (pv 0) (pa_cons pe_int pa_nil))))
 (pss_cons (ps_set (i := 6) sc__law_stretches_hold.nd rfl (Or.inl rfl) (pe_cc C__law_joined hr (by decide) (by rfl) (pa_cons (pv 5) (pa_cons (pv 1) (pa_cons (pv 4) pa_nil)))))
 (pss_cons (ps_if (pt_not (pt_val (pe_cc C__law_joined_holds hr (by decide) (by rfl) (pa_cons (pv 5) (pa_cons (pv 6) (pa_cons (pv 1) (pa_cons (pv 4) pa_nil))))))) (pss_one (ps_ret pe_bl)) pss_nil)
 (pss_cons (ps_if (pt_not (pt_val (pe_cc C__law_joined_holds hr (by decide) (by rfl) (pa_cons (pv 5) (pa_cons (pe_cc C__law_joined hr (by decide) (by rfl) (pa_cons (pv 5) (pa_cons (pv 4) (pa_cons (pv 1) pa_nil)))) (pa_cons (pv 1) (pa_cons (pv 4) pa_nil))))))) (pss_one (ps_ret pe_bl)) pss_nil)
 (pss_cons (ps_set (i := 2) sc__law_stretches_hold.nd rfl (Or.inl rfl) (pe_cc C__law_due hr (by decide) (by rfl) (pa_cons (pv 5) (pa_cons (pv 2) (pa_cons (pe_cc C__law_point hr (by decide) (by rfl) (pa_cons (pv 0) (pa_cons (pv 4) pa_nil))) pa_nil)))))
 (pss_cons (ps_if (PW.pt (pw_or (pt_val (pe_cc C__law_less hr (by decide) (by rfl) (pa_cons (pv 2) (pa_cons (pe_ix (k_ixT (K := K) rfl) (pv 6) pe_int (fun _ _ => rfl)) pa_nil)))) (pw_or1 (pt_val (pe_cc C__law_less hr (by decide) (by rfl) (pa_cons (pe_ix (k_ixT (K := K) rfl) (pv 6) pe_int (fun _ _ => rfl)) (pa_cons (pv 2) pa_nil))))))) (pss_one (ps_ret pe_bl)) pss_nil)
 (pss_one (ps_set (i := 1) sc__law_stretches_hold.nd rfl (Or.inl rfl) (pv 6)))))))))))
 (pss_one (ps_ret pe_bl))))), ?_⟩
  refine w_start (σ := [some _, none, none, none, none, none, none]) rfl ?_
  walk_at "go"
  refine ⟨b, rfl, B, fun t s H1 S c1 B hs => ?_⟩
  walk_at "go"
  refine ⟨b, t, s, rfl, B, hs, S, fun p x H2 X l1 l2 c2 B hp => ?_⟩
  have hs := hs.ch c2
  have c := c1.trans c2
  walk_at "go"
  refine ⟨b, 3, rfl, B, by decide, by decide +kernel, fun r H3 r0 r1 c3 B => ?_⟩
  have hs := hs.ch c3
  have hp := c3.sqT hp
  have c := c.trans c3
  walk_at "go"
  refine w_iR1r (by omega) (by omega) ?_
  refine for_R (n := (1 + r).toNat) (fun i σ H' => Ch [b] H H' ∧ RB H' b ∧ ∃ (t p : Addr) (s : Pr × Pr) (x : Pr) (z3 z4 z5 z6 : Option V), Sc K H' t s ∧ Fr K H' p x.1 x.2 ∧ NS (160 + 161 * i) s ∧ NB (325 + 326 * i) x ∧ LeF s.1 x ∧ LeF x s.2 ∧ σ = [some (.ref b), some (.ref t), some (.ref p), z3, z4, z5, z6])
    ⟨c, B, t, p, s, x, none, none, none, none, hs, hp, S, X, l1, l2, rfl⟩ ?_ ?_
  · rintro i σ H4 hi ⟨c, B, t, p, s, x, z3, z4, z5, z6, hs, hp, S, X, l1, l2, rfl⟩
    walk_at "go"
    refine ⟨b, rfl, B, fun t2 s2 H5 S2 c5 B hs2 => ?_⟩
    have hs := hs.ch c5
    have hp := c5.sqT hp
    have c := c.trans c5
    walk_at "go"
    refine ⟨b, 2, rfl, B, by decide, by decide +kernel, fun deed H6 d0 d1 c6 B => ?_⟩
    have hd : deed = 0 ∨ deed = 1 := by omega
    have hs := hs.ch c6
    have hs2 := hs2.ch c6
    have hp := c6.sqT hp
    have c := c.trans c6
    have S' := S.mono (show 160 + 161 * i ≤ 900 by omega)
    have S2' := S2.mono (show 160 ≤ 900 by decide)
    walk_at "go"
    refine ⟨deed, _, rfl, hd, rfl, t, t2, s, s2, 900, rfl, hs, hs2, S', S2', by decide, fun u us H7 En c7 hu => ?_⟩
    have hs := hs.ch c7
    have hs2 := hs2.ch c7
    have hp := c7.sqT hp
    have c := c.trans0 c7
    have B := B.mono c7
    have U := En.ns S S2
    walk_at "go"
    refine ⟨deed, u, t, t2, us, s, s2, 160 + 161 * i, 160, rfl, hd, hu, hs, hs2, S, S2, by omega, En, fun H8 c8 => ?_⟩
    have hs := hs.ch c8
    have hs2 := hs2.ch c8
    have hu := hu.ch c8
    have hp := c8.sqT hp
    have c := c.trans0 c8
    have B := B.mono c8
    walk_at "go"
    refine ite_f ?_
    walk_at "go"
    refine ⟨deed, _, rfl, hd, rfl, t2, t, s2, s, 900, rfl, hs2, hs, S2', S', by decide, fun v vs H9 En2 c9 hv => ?_⟩
    have hs := hs.ch c9
    have hs2 := hs2.ch c9
    have hu := hu.ch c9
    have hp := c9.sqT hp
    have c := c.trans0 c9
    have B := B.mono c9
    have En2 := En2.imp (cs_comm deed s s2)
    walk_at "go"
    refine ⟨deed, v, t, t2, vs, s, s2, 160 + 161 * i, 160, rfl, hd, hv, hs, hs2, S, S2, by omega, En2, fun H10 c10 => ?_⟩
    have hs2 := hs2.ch c10
    have hu := hu.ch c10
    have hp := c10.sqT hp
    have c := c.trans0 c10
    have B := B.mono c10
    walk_at "go"
    refine ite_f ?_
    walk_at "go"
    refine ⟨b, t2, s2, rfl, B, hs2, S2, fun p2 y H11 Y l3 l4 c11 B hp2 => ?_⟩
    have hu := hu.ch c11
    have hp := c11.sqT hp
    have c := c.trans c11
    walk_at "go"
    refine ⟨p, p2, deed, x, y, 325 + 326 * i, 325, rfl, hd, hp, hp2, X, Y, by omega, fun p3 z H12 rd c12 hp3 => ?_⟩
    have hu := hu.ch c12
    have c := c.trans0 c12
    have B := B.mono c12
    have Z : NB (325 + 326 * i + 325 + 1) z := rd.nb (du_bd X Y)
    obtain ⟨k1, k2⟩ := En.inside hd S.str S2.str X.pos Y.pos l1 l2 l3 l4 rd U.a.pos U.b.pos
    obtain ⟨u1, u2, hu0, hu1, hu2⟩ := hu
    have Zb := Z.mono (show 325 + 326 * i + 325 + 1 ≤ 2000 by omega)
    have Ub := U.mono (show 160 + 161 * i + 160 + 1 ≤ 2000 by omega)
    walk_at "go"
    refine ⟨p3, u1, z.1, z.2, us.1.1, us.1.2, 2000, rfl, hp3, hu1, Zb.bn, Zb.bd, Ub.a.bn, Ub.a.bd, by decide, ?_⟩
    rw [decide_eq_false (Int.not_lt.mpr k1)]
    walk_at "go"
    refine ite_f ?_
    walk_at "go"
    refine ⟨u2, p3, us.2.1, us.2.2, z.1, z.2, 2000, rfl, hu2, hp3, Ub.b.bn, Ub.b.bd, Zb.bn, Zb.bd, by decide, ?_⟩
    rw [decide_eq_false (Int.not_lt.mpr k2)]
    walk_at "go"
    refine ite_f ?_
    walk_at "go"
    exact ⟨c, B, u, p3, us, z, _, _, _, _, ⟨u1, u2, hu0, hu1, hu2⟩, hp3, U.mono (by omega), Z.mono (by omega), k1, k2, rfl⟩
  rintro σ H4 ⟨c, B, t, p, s, x, z3, z4, z5, z6, hs, hp, S, X, l1, l2, rfl⟩
  walk_at "go"
  exact q _ c B
theorem Ch.cutL {L M : List Addr} {H H1 H2 : Hp} (c : Ch L H H1) (hn : ∀ l ∈ M, H l = none) (d : Ch M H1 H2) : Ch L H H2 := fun a o e => by
  have ne : a ∉ M := fun m => by rw [hn a m] at e; cases e
  rcases c a o e with h | ⟨m, xs, ys, rfl, h⟩
  · rcases d a o h with h2 | ⟨m2, _⟩
    · exact .inl h2
    · exact absurd m2 ne
  · rcases d a _ h with h2 | ⟨m2, _⟩
    · exact .inr ⟨m, xs, ys, rfl, h2⟩
    · exact absurd m2 ne
abbrev s_law : Stmt := topS 56
theorem sc_law : FnScope ["script"] ["script"] (defScope s_law) := ⟨rfl, rfl, rfl, by decide +kernel, rfl, by decide +kernel, by decide +kernel⟩
def sp_law (K : PySem.W.Frag) : Sp := fun vs H Q _ => ∃ (a : Addr) (ns : List Int), vs = [.ref a] ∧ SqL K H a (ivs ns) ∧ ns.length ≤ 63 ∧ ∀ H', Q (.bl true) H'
theorem c_law (C__law_box : Cal P w K mg base 2 "_law_box" (sp__law_box K)) (C__law_decimals_hold : Cal P w K mg base 5 "_law_decimals_hold" sp__law_texts_hold) (C__law_texts_hold : Cal P w K mg base 6 "_law_texts_hold" sp__law_texts_hold) (C__law_stretches_hold : Cal P w K mg base 6 "_law_stretches_hold" sp__law_texts_hold)
    {f : Addr} {fd : FuncData} (F : DefF K mg "law" s_law ["script"] f fd) : FnOk P w K mg base (L2.CX P w) 7 f fd ["script"] (sp_law K) := by
  refine F.fn.okX sc_law (fun vs H Q E h => by obtain ⟨_, _, rfl, _⟩ := h; rfl) (fun cdv A outer s0 H vs Q E hr h => ?_)
  obtain ⟨a, ns, rfl, hs, hl, q⟩ := h
  refine ⟨_, (pss_cons (ps_if (pt_not (pt_val (pe_cc C__law_decimals_hold hr (by decide) (by rfl) (pa_cons (pe_cc C__law_box hr (by decide) (by rfl) (pa_cons (pv 0) (pa_cons pe_int pa_nil))) pa_nil)))) (pss_one (ps_ret pe_bl)) pss_nil)
 (pss_cons (ps_if (pt_not (pt_val (pe_cc C__law_texts_hold hr (by decide) (by rfl) (pa_cons (pe_cc C__law_box hr (by decide) (by rfl) (pa_cons (pv 0) (pa_cons pe_int pa_nil))) pa_nil)))) (pss_one (ps_ret pe_bl)) pss_nil)
 (pss_one (ps_ret (pe_cc C__law_stretches_hold hr (by decide) (by rfl) (pa_cons (pe_cc C__law_box hr (by decide) (by rfl) (pa_cons (pv 0) (pa_cons pe_int pa_nil))) pa_nil)))))), ?_⟩
  refine w_start (σ := [some _]) rfl ?_
  have one : ∀ {b : Addr} {H1 : Hp}, H1 b = none → ∀ l ∈ [b], H1 l = none := fun nb l ml => by rw [List.mem_singleton.mp ml]; exact nb
  walk_at "go"
  refine ⟨a, ns, 0, rfl, hs, by decide, by omega, fun b H1 nb c1 B1 => ?_⟩
  walk_at "go"
  refine ⟨b, rfl, B1, fun H2 c2 B2 => ?_⟩
  have c := c1.cutL (one nb) c2
  walk_at "go"
  refine ite_f ?_
  walk_at "go"
  refine ⟨a, ns, 1, rfl, c.sq0 hs, by decide, by omega, fun b3 H3 nb3 c3 B3 => ?_⟩
  walk_at "go"
  refine ⟨b3, rfl, B3, fun H4 c4 B4 => ?_⟩
  have c := c.trans (c3.cutL (one nb3) c4)
  walk_at "go"
  refine ite_f ?_
  walk_at "go"
  refine ⟨a, ns, 2, rfl, c.sq0 hs, by decide, by omega, fun b5 H5 nb5 c5 B5 => ?_⟩
  walk_at "go"
  refine ⟨b5, rfl, B5, fun H6 c6 B6 => ?_⟩
  exact q _
end
end My
namespace My
open PySem PySem.Spec PyProof.Rows L2
section
variable {K : PySem.W.Frag} {h : Heap} {mg : Str → Option Value} {x : Str}
theorem defE_of {st : Stmt} {ps : List Str} {dvs : List V} {n2 : Nat} (X : K.In h) (G : h.Ns mainGlobals mg) (g : (He.Fa.glo x).ok K = true) (d0 : dvs ≠ []) (F : ∃ fd, FunD K x x (defArgs st) (defBody st) (defScope st) dvs [] (He.fAd K (x, none)) fd)
    (b : ∀ (T : Addr) (kV doc pm : Value) (an : Option Addr) (cdv ct : Value) (us its : List Value), us.length = ps.length → its.length = dvs.length →
      ∃ k, bindArgs (PySem.W.fnOf x x (defArgs st) (defBody st) (defScope st) (.ref T) kV doc pm an cdv ct) ⟨us, []⟩ = seqItems? (.ref T) >>= k ∧ k (some its.toArray) = pure (ps.zip (us ++ its.drop dvs.length)))
    (e2 : n2 + dvs.length = ps.length)
    (b2 : ∀ (T : Addr) (kV doc pm : Value) (an : Option Addr) (cdv ct : Value) (us its : List Value), us.length = n2 → its.length = dvs.length →
      ∃ k, bindArgs (PySem.W.fnOf x x (defArgs st) (defBody st) (defScope st) (.ref T) kV doc pm an cdv ct) ⟨us, []⟩ = seqItems? (.ref T) >>= k ∧ k (some its.toArray) = pure (ps.zip (us ++ its.drop 0))) : ∃ f fd, DefE K mg x st ps dvs f fd := by
  obtain ⟨fd, F⟩ := F
  refine ⟨_, fd, F, He.glo_ok X G g, ?_, ?_⟩
  · obtain ⟨ds, v, B⟩ := F.binds1 ps.length dvs.length d0 (by rw [Nat.sub_self]; rfl) b
    rw [List.drop_length] at v
    cases v
    exact B
  · obtain ⟨ds, v, B⟩ := F.binds1 n2 0 d0 (by rw [Nat.sub_zero]; exact e2) b2
    rw [List.drop_zero] at v
    exact ⟨ds, v, B⟩
end
section
variable {P : Program} {w : World} {K : PySem.W.Frag} {mg : Str → Option Value} {base : Heap}
theorem all_law {A_CellspireError A_DivisionByZero A_InvalidStretch A_InvalidText t_RUN t_DIGITS : Addr} (T : Txt mg) (z_str : mg "str" = none) (z_divmod : mg "divmod" = none) (z_max : mg "max" = none) (z_ValueError : mg "ValueError" = none) (m_gcd : mg "gcd" = some (.builtin "math.gcd")) (G__RUN : mg "_RUN" = some (.int 600 t_RUN)) (G__DIGITS : mg "_DIGITS" = some (.str "0123456789" t_DIGITS)) (X_DivisionByZero : ExcF K mg "DivisionByZero" A_DivisionByZero) (OI_InvalidText : OwnI K "InvalidText.__init__" A_InvalidText si_InvalidText ["self", "at"]) (NA_InvalidText_at : PySem.W.findIn K (.ref A_InvalidText) "at" = some none) (G_CellspireError : mg "CellspireError" = some (.ref A_CellspireError)) (G_DivisionByZero : mg "DivisionByZero" = some (.ref A_DivisionByZero)) (G_InvalidStretch : mg "InvalidStretch" = some (.ref A_InvalidStretch)) (G_InvalidText : mg "InvalidText" = some (.ref A_InvalidText)) (XC_InvalidText : ExcC K A_InvalidText) (e1 : PySem.W.exmOne K (.ref A_InvalidText) (.ref A_InvalidText) = some true) (e2 : PySem.W.kitOne K (.ref A_InvalidText) (.ref A_InvalidStretch) = some false) (e3 : PySem.W.kitOne K (.ref A_InvalidText) (.ref A_DivisionByZero) = some false) (e4 : PySem.W.kitOne K (.ref A_InvalidText) (.ref A_CellspireError) = some true) (e5 : PySem.W.kitOne K (.ref A_InvalidText) (.type "ValueError") = some true) {f_sign_of : Addr} {fd_sign_of : FuncData} (D_sign_of : DefF K mg "sign_of" s_sign_of ["n"] f_sign_of fd_sign_of) {f_compare : Addr} {fd_compare : FuncData} (D_compare : DefF K mg "compare" s_compare ["a", "b"] f_compare fd_compare) {f__law_is_integer : Addr} {fd__law_is_integer : FuncData} (D__law_is_integer : DefF K mg "_law_is_integer" s__law_is_integer ["told"] f__law_is_integer fd__law_is_integer) {f__law_same : Addr} {fd__law_same : FuncData} (D__law_same : DefF K mg "_law_same" s__law_same ["told", "due"] f__law_same fd__law_same) {f__law_cell : Addr} {fd__law_cell : FuncData} (D__law_cell : DefF K mg "_law_cell" s__law_cell ["script", "k"] f__law_cell fd__law_cell) {f__law_box : Addr} {fd__law_box : FuncData} (D__law_box : DefF K mg "_law_box" s__law_box ["script", "k"] f__law_box fd__law_box) {f__law_take : Addr} {fd__law_take : FuncData} (D__law_take : DefF K mg "_law_take" s__law_take ["box", "many"] f__law_take fd__law_take) {f__law_turned : Addr} {fd__law_turned : FuncData} (D__law_turned : DefF K mg "_law_turned" s__law_turned ["box", "number"] f__law_turned fd__law_turned) {f__law_power : Addr} {fd__law_power : FuncData} (D__law_power : DefF K mg "_law_power" s__law_power ["root", "count"] f__law_power fd__law_power) {f__law_limbs : Addr} {fd__law_limbs : FuncData} (D__law_limbs : DefF K mg "_law_limbs" s__law_limbs ["box", "count"] f__law_limbs fd__law_limbs) {f__law_gcd : Addr} {fd__law_gcd : FuncData} (D__law_gcd : DefF K mg "_law_gcd" s__law_gcd ["one", "two"] f__law_gcd fd__law_gcd) {f__law_lowest : Addr} {fd__law_lowest : FuncData} (D__law_lowest : DefF K mg "_law_lowest" s__law_lowest ["top", "bottom"] f__law_lowest fd__law_lowest) {f__law_long : Addr} {fd__law_long : FuncData} (D__law_long : DefF K mg "_law_long" s__law_long ["box"] f__law_long fd__law_long) {f__law_number : Addr} {fd__law_number : FuncData} (D__law_number : DefF K mg "_law_number" s__law_number ["box"] f__law_number fd__law_number) {f_fraction : Addr} {fd_fraction : FuncData} (D_fraction : DefE K mg "fraction" s_fraction ["n", "d"] [.int 1] f_fraction fd_fraction) {f_plus : Addr} {fd_plus : FuncData} (D_plus : DefF K mg "plus" s_plus ["a", "b"] f_plus fd_plus) {f_times : Addr} {fd_times : FuncData} (D_times : DefF K mg "times" s_times ["a", "b"] f_times fd_times) {f_whole_power : Addr} {fd_whole_power : FuncData} (D_whole_power : DefF K mg "whole_power" s_whole_power ["a", "n"] f_whole_power fd_whole_power) {f__digits : Addr} {fd__digits : FuncData} (D__digits : DefF K mg "_digits" s__digits ["n"] f__digits fd__digits) {f__write_integer : Addr} {fd__write_integer : FuncData} (D__write_integer : DefF K mg "_write_integer" s__write_integer ["n"] f__write_integer fd__write_integer) {f_write_fraction : Addr} {fd_write_fraction : FuncData} (D_write_fraction : DefF K mg "write_fraction" s_write_fraction ["a"] f_write_fraction fd_write_fraction) {f__is_plain : Addr} {fd__is_plain : FuncData} (D__is_plain : DefF K mg "_is_plain" s__is_plain ["word"] f__is_plain fd__is_plain) {f_decimal : Addr} {fd_decimal : FuncData} (D_decimal : DefF K mg "decimal" s_decimal ["a", "places"] f_decimal fd_decimal) {f_read_fraction : Addr} {fd_read_fraction : FuncData} (D_read_fraction : DefF K mg "read_fraction" s_read_fraction ["text"] f_read_fraction fd_read_fraction) {f__law_figures : Addr} {fd__law_figures : FuncData} (D__law_figures : DefF K mg "_law_figures" s__law_figures ["text"] f__law_figures fd__law_figures) {f__law_text : Addr} {fd__law_text : FuncData} (D__law_text : DefF K mg "_law_text" s__law_text ["a"] f__law_text fd__law_text) {f__law_reading : Addr} {fd__law_reading : FuncData} (D__law_reading : DefF K mg "_law_reading" s__law_reading ["text"] f__law_reading fd__law_reading) {f__law_text_holds : Addr} {fd__law_text_holds : FuncData} (D__law_text_holds : DefF K mg "_law_text_holds" s__law_text_holds ["text"] f__law_text_holds fd__law_text_holds) {f__law_writing_holds : Addr} {fd__law_writing_holds : FuncData} (D__law_writing_holds : DefF K mg "_law_writing_holds" s__law_writing_holds ["a"] f__law_writing_holds fd__law_writing_holds) {f__law_wrong_texts : Addr} {fd__law_wrong_texts : FuncData} (D__law_wrong_texts : DefF K mg "_law_wrong_texts" s__law_wrong_texts ["a"] f__law_wrong_texts fd__law_wrong_texts) {f__law_long_fraction : Addr} {fd__law_long_fraction : FuncData} (D__law_long_fraction : DefF K mg "_law_long_fraction" s__law_long_fraction ["box"] f__law_long_fraction fd__law_long_fraction) {f__law_sign : Addr} {fd__law_sign : FuncData} (D__law_sign : DefF K mg "_law_sign" s__law_sign ["box"] f__law_sign fd__law_sign) {f__law_bent : Addr} {fd__law_bent : FuncData} (D__law_bent : DefF K mg "_law_bent" s__law_bent ["box", "text"] f__law_bent fd__law_bent) {f__law_texts_hold : Addr} {fd__law_texts_hold : FuncData} (D__law_texts_hold : DefF K mg "_law_texts_hold" s__law_texts_hold ["box"] f__law_texts_hold fd__law_texts_hold) {f__law_places : Addr} {fd__law_places : FuncData} (D__law_places : DefF K mg "_law_places" s__law_places ["box"] f__law_places fd__law_places) {f__law_decimal_holds : Addr} {fd__law_decimal_holds : FuncData} (D__law_decimal_holds : DefF K mg "_law_decimal_holds" s__law_decimal_holds ["a", "places"] f__law_decimal_holds fd__law_decimal_holds) {f__law_decimals_hold : Addr} {fd__law_decimals_hold : FuncData} (D__law_decimals_hold : DefF K mg "_law_decimals_hold" s__law_decimals_hold ["box"] f__law_decimals_hold fd__law_decimals_hold) {f__law_less : Addr} {fd__law_less : FuncData} (D__law_less : DefF K mg "_law_less" s__law_less ["a", "b"] f__law_less fd__law_less) {f_stretch_plus : Addr} {fd_stretch_plus : FuncData} (D_stretch_plus : DefF K mg "stretch_plus" s_stretch_plus ["s", "t"] f_stretch_plus fd_stretch_plus) {f_stretch_times : Addr} {fd_stretch_times : FuncData} (D_stretch_times : DefF K mg "stretch_times" s_stretch_times ["s", "t"] f_stretch_times fd_stretch_times) {f__law_stretch : Addr} {fd__law_stretch : FuncData} (D__law_stretch : DefF K mg "_law_stretch" s__law_stretch ["box"] f__law_stretch fd__law_stretch) {f__law_point : Addr} {fd__law_point : FuncData} (D__law_point : DefF K mg "_law_point" s__law_point ["box", "stretch"] f__law_point fd__law_point) {f__law_due : Addr} {fd__law_due : FuncData} (D__law_due : DefF K mg "_law_due" s__law_due ["deed", "a", "b"] f__law_due fd__law_due) {f__law_joined : Addr} {fd__law_joined : FuncData} (D__law_joined : DefF K mg "_law_joined" s__law_joined ["deed", "s", "t"] f__law_joined fd__law_joined) {f__law_joined_holds : Addr} {fd__law_joined_holds : FuncData} (D__law_joined_holds : DefF K mg "_law_joined_holds" s__law_joined_holds ["deed", "told", "s", "t"] f__law_joined_holds fd__law_joined_holds) {f__law_stretches_hold : Addr} {fd__law_stretches_hold : FuncData} (D__law_stretches_hold : DefF K mg "_law_stretches_hold" s__law_stretches_hold ["box"] f__law_stretches_hold fd__law_stretches_hold) {f_law : Addr} {fd_law : FuncData} (D_law : DefF K mg "law" s_law ["script"] f_law fd_law) : FnOk P w K mg base (L2.CX P w) 7 f_law fd_law ["script"] (sp_law K) := by
  have O_InvalidText : OexD P w K mg base 1 "InvalidText" A_InvalidText (sp_init1 K A_InvalidText "at") := by
    obtain ⟨fI, fd, iC, tI, FI, BI⟩ := OI_InvalidText.ex
    exact ⟨OI_InvalidText.T, G_InvalidText, fI, fd, _, iC, tI, ci_InvalidText OI_InvalidText.T NA_InvalidText_at FI, BI⟩
  have C_sign_of := c_sign_of (P := P) (w := w) (base := base) (F := D_sign_of)
  have C_compare := c_compare (P := P) (w := w) (base := base) (C_sign_of := C_sign_of) (F := D_compare)
  have C__law_is_integer := c__law_is_integer (P := P) (w := w) (base := base) (T := T) (F := D__law_is_integer)
  have H__law_is_integer := h__law_is_integer (P := P) (w := w) (base := base) (T := T) (F := D__law_is_integer)
  have C__law_same := c__law_same (P := P) (w := w) (base := base) (T := T) (C__law_is_integer := C__law_is_integer) (F := D__law_same)
  have H__law_same := h__law_same (P := P) (w := w) (base := base) (T := T) (H__law_is_integer := H__law_is_integer) (F := D__law_same)
  have C__law_cell := c__law_cell (P := P) (w := w) (base := base) (T := T) (F := D__law_cell)
  have C__law_box := c__law_box (P := P) (w := w) (base := base) (T := T) (C__law_cell := C__law_cell) (F := D__law_box)
  have C__law_take := c__law_take (P := P) (w := w) (base := base) (T := T) (F := D__law_take)
  have C__law_turned := c__law_turned (P := P) (w := w) (base := base) (C__law_take := C__law_take) (F := D__law_turned)
  have C__law_power := c__law_power (P := P) (w := w) (base := base) (T := T) (F := D__law_power)
  have C__law_limbs := c__law_limbs (P := P) (w := w) (base := base) (T := T) (C__law_take := C__law_take) (F := D__law_limbs)
  have C__law_gcd := c__law_gcd (P := P) (w := w) (base := base) (T := T) (F := D__law_gcd)
  have C__law_lowest := c__law_lowest (P := P) (w := w) (base := base) (C__law_gcd := C__law_gcd) (F := D__law_lowest)
  have C__law_long := c__law_long (P := P) (w := w) (base := base) (C__law_take := C__law_take) (C__law_turned := C__law_turned) (C__law_power := C__law_power) (C__law_limbs := C__law_limbs) (F := D__law_long)
  have C__law_number := c__law_number (P := P) (w := w) (base := base) (T := T) (C__law_take := C__law_take) (C__law_turned := C__law_turned) (C__law_power := C__law_power) (C__law_limbs := C__law_limbs) (C__law_long := C__law_long) (C__law_lowest := C__law_lowest) (F := D__law_number)
  obtain ⟨C_fraction, CD_fraction⟩ := c_fraction (P := P) (w := w) (base := base) (m_gcd := m_gcd) (X_DivisionByZero := X_DivisionByZero) (F := D_fraction)
  have C_plus := c_plus (P := P) (w := w) (base := base) (C_fraction := C_fraction) (F := D_plus)
  have C_times := c_times (P := P) (w := w) (base := base) (C_fraction := C_fraction) (F := D_times)
  have C_whole_power := c_whole_power (P := P) (w := w) (base := base) (F := D_whole_power)
  have C__digits := c__digits (P := P) (w := w) (base := base) (T := T) (z_str := z_str) (z_divmod := z_divmod) (G__RUN := G__RUN) (C_whole_power := C_whole_power) (F := D__digits)
  have C__write_integer := c__write_integer (P := P) (w := w) (base := base) (C__digits := C__digits) (F := D__write_integer)
  have C_write_fraction := c_write_fraction (P := P) (w := w) (base := base) (C__write_integer := C__write_integer) (F := D_write_fraction)
  have C__is_plain := c__is_plain (P := P) (w := w) (base := base) (G__DIGITS := G__DIGITS) (F := D__is_plain)
  have C_decimal := c_decimal (P := P) (w := w) (base := base) (T := T) (z_str := z_str) (z_divmod := z_divmod) (C_whole_power := C_whole_power) (C__digits := C__digits) (F := D_decimal)
  have C_read_fraction := c_read_fraction (P := P) (w := w) (base := base) (T := T) (m_gcd := m_gcd) (O_InvalidText := O_InvalidText) (C__is_plain := C__is_plain) (F := D_read_fraction)
  have C__law_figures := c__law_figures (P := P) (w := w) (base := base) (T := T) (F := D__law_figures)
  have C__law_text := c__law_text (P := P) (w := w) (base := base) (z_str := z_str) (F := D__law_text)
  have C__law_reading := c__law_reading (P := P) (w := w) (base := base) (T := T) (C__law_figures := C__law_figures) (C__law_gcd := C__law_gcd) (F := D__law_reading)
  have C__law_text_holds := c__law_text_holds (P := P) (w := w) (base := base) (T := T) (z_str := z_str) (z_ValueError := z_ValueError) (G_InvalidStretch := G_InvalidStretch) (G_InvalidText := G_InvalidText) (G_DivisionByZero := G_DivisionByZero) (G_CellspireError := G_CellspireError) (XC_InvalidText := XC_InvalidText) (NA_InvalidText_at := NA_InvalidText_at) (e1 := e1) (e2 := e2) (e3 := e3) (e4 := e4) (e5 := e5) (C__law_reading := C__law_reading) (C_read_fraction := C_read_fraction) (H__law_is_integer := H__law_is_integer) (C__law_same := C__law_same) (C_write_fraction := C_write_fraction) (F := D__law_text_holds)
  have C__law_writing_holds := c__law_writing_holds (P := P) (w := w) (base := base) (T := T) (z_str := z_str) (C_write_fraction := C_write_fraction) (C__law_text := C__law_text) (C_read_fraction := C_read_fraction) (C__law_same := C__law_same) (F := D__law_writing_holds)
  have C__law_wrong_texts := c__law_wrong_texts (P := P) (w := w) (base := base) (T := T) (z_str := z_str) (C__law_text := C__law_text) (F := D__law_wrong_texts)
  have C__law_long_fraction := c__law_long_fraction (P := P) (w := w) (base := base) (C__law_take := C__law_take) (C__law_turned := C__law_turned) (C__law_limbs := C__law_limbs) (C__law_lowest := C__law_lowest) (F := D__law_long_fraction)
  have C__law_sign := c__law_sign (P := P) (w := w) (base := base) (C__law_take := C__law_take) (F := D__law_sign)
  have C__law_bent := c__law_bent (P := P) (w := w) (base := base) (T := T) (C__law_take := C__law_take) (C__law_sign := C__law_sign) (F := D__law_bent)
  have C__law_texts_hold := c__law_texts_hold (P := P) (w := w) (base := base) (T := T) (C__law_number := C__law_number) (C__law_writing_holds := C__law_writing_holds) (C__law_wrong_texts := C__law_wrong_texts) (C__law_text_holds := C__law_text_holds) (C__law_text := C__law_text) (C__law_long_fraction := C__law_long_fraction) (C__law_bent := C__law_bent) (F := D__law_texts_hold)
  have C__law_places := c__law_places (P := P) (w := w) (base := base) (C__law_take := C__law_take) (F := D__law_places)
  have C__law_decimal_holds := c__law_decimal_holds (P := P) (w := w) (base := base) (T := T) (z_str := z_str) (C_decimal := C_decimal) (C__law_figures := C__law_figures) (C__law_power := C__law_power) (F := D__law_decimal_holds)
  have C__law_decimals_hold := c__law_decimals_hold (P := P) (w := w) (base := base) (T := T) (z_max := z_max) (C__law_number := C__law_number) (C__law_places := C__law_places) (C__law_decimal_holds := C__law_decimal_holds) (C__law_take := C__law_take) (C__law_turned := C__law_turned) (C__law_limbs := C__law_limbs) (C__law_power := C__law_power) (C__law_lowest := C__law_lowest) (F := D__law_decimals_hold)
  have C__law_less := c__law_less (P := P) (w := w) (base := base) (F := D__law_less)
  have C_stretch_plus := c_stretch_plus (P := P) (w := w) (base := base) (C_plus := C_plus) (F := D_stretch_plus)
  have C_stretch_times := c_stretch_times (P := P) (w := w) (base := base) (C_times := C_times) (C_compare := C_compare) (F := D_stretch_times)
  have C__law_stretch := c__law_stretch (P := P) (w := w) (base := base) (C__law_take := C__law_take) (C__law_number := C__law_number) (C__law_less := C__law_less) (F := D__law_stretch)
  have C__law_point := c__law_point (P := P) (w := w) (base := base) (C__law_take := C__law_take) (C__law_lowest := C__law_lowest) (F := D__law_point)
  have C__law_due := c__law_due (P := P) (w := w) (base := base) (C__law_lowest := C__law_lowest) (F := D__law_due)
  have C__law_joined := c__law_joined (P := P) (w := w) (base := base) (C_stretch_plus := C_stretch_plus) (C_stretch_times := C_stretch_times) (F := D__law_joined)
  have C__law_joined_holds := c__law_joined_holds (P := P) (w := w) (base := base) (T := T) (C__law_due := C__law_due) (C__law_less := C__law_less) (C__law_same := C__law_same) (F := D__law_joined_holds)
  have C__law_stretches_hold := c__law_stretches_hold (P := P) (w := w) (base := base) (T := T) (C__law_stretch := C__law_stretch) (C__law_point := C__law_point) (C__law_take := C__law_take) (C__law_joined := C__law_joined) (C__law_joined_holds := C__law_joined_holds) (C__law_due := C__law_due) (C__law_less := C__law_less) (F := D__law_stretches_hold)
  have C_law := c_law (P := P) (w := w) (base := base) (C__law_box := C__law_box) (C__law_decimals_hold := C__law_decimals_hold) (C__law_texts_hold := C__law_texts_hold) (C__law_stretches_hold := C__law_stretches_hold) (F := D_law)
  exact C_law
end
end My
namespace My
open MyH PySem PySem.Spec PyProof.Rows L2
theorem facts {P : Program} {w : World} {K : PySem.W.Frag} {h : Heap} {mg : Str → Option Value} {f : Addr} (X : K.In h) (G : h.Ns mainGlobals mg) (hfa : mg ("law" : Str) = some (.ref f)) (cc : ∀ p ∈ ps_, He.SaysD p.1 p.2 K) (e : ex K = true) :
    ∃ fd : FuncData, (∀ (s : Shared) (v : Value), BindsTo s fd ⟨[v], []⟩ [("script", v)]) ∧ ∀ base : Heap, K.In base → base.Ns mainGlobals mg → FnOk P w K mg base (L2.CX P w) 7 f fd ["script"] (sp_law K) := by
  have c0 : He.SaysD ((fa, []) : Pt).1 ((fa, []) : Pt).2 K := all_mem (p := fun p : Pt => He.SaysD p.1 p.2 K) (a := (fa, [])) cc 0 rfl
  have c1 : He.SaysD (([], fp0) : Pt).1 (([], fp0) : Pt).2 K := all_mem (p := fun p : Pt => He.SaysD p.1 p.2 K) (a := ([], fp0)) cc 1 rfl
  have c2 : He.SaysD (([], fp1) : Pt).1 (([], fp1) : Pt).2 K := all_mem (p := fun p : Pt => He.SaysD p.1 p.2 K) (a := ([], fp1)) cc 2 rfl
  obtain ⟨f_sign_of, fd_sign_of, D_sign_of, B_sign_of⟩ := defF_of (x := "sign_of") (st := s_sign_of) (ps := ["n"]) X G (c0.fact 0 (f := .glo "sign_of") rfl) (c1.def_ 0 (d := dOf "sign_of" s_sign_of) rfl) (fun _ _ _ _ _ _ us hl => match us, hl with | [_], _ => rfl)
  obtain ⟨f_compare, fd_compare, D_compare, B_compare⟩ := defF_of (x := "compare") (st := s_compare) (ps := ["a", "b"]) X G (c0.fact 1 (f := .glo "compare") rfl) (c1.def_ 1 (d := dOf "compare" s_compare) rfl) (fun _ _ _ _ _ _ us hl => match us, hl with | [_, _], _ => rfl)
  obtain ⟨f__law_is_integer, fd__law_is_integer, D__law_is_integer, B__law_is_integer⟩ := defF_of (x := "_law_is_integer") (st := s__law_is_integer) (ps := ["told"]) X G (c0.fact 2 (f := .glo "_law_is_integer") rfl) (c1.def_ 2 (d := dOf "_law_is_integer" s__law_is_integer) rfl) (fun _ _ _ _ _ _ us hl => match us, hl with | [_], _ => rfl)
  obtain ⟨f__law_same, fd__law_same, D__law_same, B__law_same⟩ := defF_of (x := "_law_same") (st := s__law_same) (ps := ["told", "due"]) X G (c0.fact 3 (f := .glo "_law_same") rfl) (c1.def_ 3 (d := dOf "_law_same" s__law_same) rfl) (fun _ _ _ _ _ _ us hl => match us, hl with | [_, _], _ => rfl)
  obtain ⟨f__law_cell, fd__law_cell, D__law_cell, B__law_cell⟩ := defF_of (x := "_law_cell") (st := s__law_cell) (ps := ["script", "k"]) X G (c0.fact 4 (f := .glo "_law_cell") rfl) (c1.def_ 4 (d := dOf "_law_cell" s__law_cell) rfl) (fun _ _ _ _ _ _ us hl => match us, hl with | [_, _], _ => rfl)
  obtain ⟨f__law_box, fd__law_box, D__law_box, B__law_box⟩ := defF_of (x := "_law_box") (st := s__law_box) (ps := ["script", "k"]) X G (c0.fact 5 (f := .glo "_law_box") rfl) (c1.def_ 5 (d := dOf "_law_box" s__law_box) rfl) (fun _ _ _ _ _ _ us hl => match us, hl with | [_, _], _ => rfl)
  obtain ⟨f__law_take, fd__law_take, D__law_take, B__law_take⟩ := defF_of (x := "_law_take") (st := s__law_take) (ps := ["box", "many"]) X G (c0.fact 6 (f := .glo "_law_take") rfl) (c1.def_ 6 (d := dOf "_law_take" s__law_take) rfl) (fun _ _ _ _ _ _ us hl => match us, hl with | [_, _], _ => rfl)
  obtain ⟨f__law_turned, fd__law_turned, D__law_turned, B__law_turned⟩ := defF_of (x := "_law_turned") (st := s__law_turned) (ps := ["box", "number"]) X G (c0.fact 7 (f := .glo "_law_turned") rfl) (c1.def_ 7 (d := dOf "_law_turned" s__law_turned) rfl) (fun _ _ _ _ _ _ us hl => match us, hl with | [_, _], _ => rfl)
  obtain ⟨f__law_power, fd__law_power, D__law_power, B__law_power⟩ := defF_of (x := "_law_power") (st := s__law_power) (ps := ["root", "count"]) X G (c0.fact 8 (f := .glo "_law_power") rfl) (c1.def_ 8 (d := dOf "_law_power" s__law_power) rfl) (fun _ _ _ _ _ _ us hl => match us, hl with | [_, _], _ => rfl)
  obtain ⟨f__law_limbs, fd__law_limbs, D__law_limbs, B__law_limbs⟩ := defF_of (x := "_law_limbs") (st := s__law_limbs) (ps := ["box", "count"]) X G (c0.fact 9 (f := .glo "_law_limbs") rfl) (c1.def_ 9 (d := dOf "_law_limbs" s__law_limbs) rfl) (fun _ _ _ _ _ _ us hl => match us, hl with | [_, _], _ => rfl)
  obtain ⟨f__law_gcd, fd__law_gcd, D__law_gcd, B__law_gcd⟩ := defF_of (x := "_law_gcd") (st := s__law_gcd) (ps := ["one", "two"]) X G (c0.fact 10 (f := .glo "_law_gcd") rfl) (c1.def_ 10 (d := dOf "_law_gcd" s__law_gcd) rfl) (fun _ _ _ _ _ _ us hl => match us, hl with | [_, _], _ => rfl)
  obtain ⟨f__law_lowest, fd__law_lowest, D__law_lowest, B__law_lowest⟩ := defF_of (x := "_law_lowest") (st := s__law_lowest) (ps := ["top", "bottom"]) X G (c0.fact 11 (f := .glo "_law_lowest") rfl) (c1.def_ 11 (d := dOf "_law_lowest" s__law_lowest) rfl) (fun _ _ _ _ _ _ us hl => match us, hl with | [_, _], _ => rfl)
  obtain ⟨f__law_long, fd__law_long, D__law_long, B__law_long⟩ := defF_of (x := "_law_long") (st := s__law_long) (ps := ["box"]) X G (c0.fact 12 (f := .glo "_law_long") rfl) (c1.def_ 12 (d := dOf "_law_long" s__law_long) rfl) (fun _ _ _ _ _ _ us hl => match us, hl with | [_], _ => rfl)
  obtain ⟨f__law_number, fd__law_number, D__law_number, B__law_number⟩ := defF_of (x := "_law_number") (st := s__law_number) (ps := ["box"]) X G (c0.fact 13 (f := .glo "_law_number") rfl) (c1.def_ 13 (d := dOf "_law_number" s__law_number) rfl) (fun _ _ _ _ _ _ us hl => match us, hl with | [_], _ => rfl)
  obtain ⟨f_fraction, fd_fraction, D_fraction⟩ := defE_of (x := "fraction") (st := s_fraction) (ps := ["n", "d"]) (dvs := [.int 1]) (n2 := 1) X G (c0.fact 14 (f := .glo "fraction") rfl) (by decide) (c1.def_ 14 rfl) (fun _ _ _ _ _ _ _ us its hu hi => match us, its, hu, hi with | [_, _], [_], _, _ => ⟨_, rfl, rfl⟩) rfl (fun _ _ _ _ _ _ _ us its hu hi => match us, its, hu, hi with | [_], [_], _, _ => ⟨_, rfl, rfl⟩)
  obtain ⟨f_plus, fd_plus, D_plus, B_plus⟩ := defF_of (x := "plus") (st := s_plus) (ps := ["a", "b"]) X G (c0.fact 15 (f := .glo "plus") rfl) (c1.def_ 15 (d := dOf "plus" s_plus) rfl) (fun _ _ _ _ _ _ us hl => match us, hl with | [_, _], _ => rfl)
  obtain ⟨f_times, fd_times, D_times, B_times⟩ := defF_of (x := "times") (st := s_times) (ps := ["a", "b"]) X G (c0.fact 16 (f := .glo "times") rfl) (c1.def_ 16 (d := dOf "times" s_times) rfl) (fun _ _ _ _ _ _ us hl => match us, hl with | [_, _], _ => rfl)
  obtain ⟨f_whole_power, fd_whole_power, D_whole_power, B_whole_power⟩ := defF_of (x := "whole_power") (st := s_whole_power) (ps := ["a", "n"]) X G (c0.fact 17 (f := .glo "whole_power") rfl) (c1.def_ 17 (d := dOf "whole_power" s_whole_power) rfl) (fun _ _ _ _ _ _ us hl => match us, hl with | [_, _], _ => rfl)
  obtain ⟨f__digits, fd__digits, D__digits, B__digits⟩ := defF_of (x := "_digits") (st := s__digits) (ps := ["n"]) X G (c0.fact 18 (f := .glo "_digits") rfl) (c1.def_ 18 (d := dOf "_digits" s__digits) rfl) (fun _ _ _ _ _ _ us hl => match us, hl with | [_], _ => rfl)
  obtain ⟨f__write_integer, fd__write_integer, D__write_integer, B__write_integer⟩ := defF_of (x := "_write_integer") (st := s__write_integer) (ps := ["n"]) X G (c0.fact 19 (f := .glo "_write_integer") rfl) (c1.def_ 19 (d := dOf "_write_integer" s__write_integer) rfl) (fun _ _ _ _ _ _ us hl => match us, hl with | [_], _ => rfl)
  obtain ⟨f_write_fraction, fd_write_fraction, D_write_fraction, B_write_fraction⟩ := defF_of (x := "write_fraction") (st := s_write_fraction) (ps := ["a"]) X G (c0.fact 20 (f := .glo "write_fraction") rfl) (c1.def_ 20 (d := dOf "write_fraction" s_write_fraction) rfl) (fun _ _ _ _ _ _ us hl => match us, hl with | [_], _ => rfl)
  obtain ⟨f__is_plain, fd__is_plain, D__is_plain, B__is_plain⟩ := defF_of (x := "_is_plain") (st := s__is_plain) (ps := ["word"]) X G (c0.fact 21 (f := .glo "_is_plain") rfl) (c1.def_ 21 (d := dOf "_is_plain" s__is_plain) rfl) (fun _ _ _ _ _ _ us hl => match us, hl with | [_], _ => rfl)
  obtain ⟨f_decimal, fd_decimal, D_decimal, B_decimal⟩ := defF_of (x := "decimal") (st := s_decimal) (ps := ["a", "places"]) X G (c0.fact 22 (f := .glo "decimal") rfl) (c1.def_ 22 (d := dOf "decimal" s_decimal) rfl) (fun _ _ _ _ _ _ us hl => match us, hl with | [_, _], _ => rfl)
  obtain ⟨f_read_fraction, fd_read_fraction, D_read_fraction, B_read_fraction⟩ := defF_of (x := "read_fraction") (st := s_read_fraction) (ps := ["text"]) X G (c0.fact 23 (f := .glo "read_fraction") rfl) (c1.def_ 23 (d := dOf "read_fraction" s_read_fraction) rfl) (fun _ _ _ _ _ _ us hl => match us, hl with | [_], _ => rfl)
  obtain ⟨f__law_figures, fd__law_figures, D__law_figures, B__law_figures⟩ := defF_of (x := "_law_figures") (st := s__law_figures) (ps := ["text"]) X G (c0.fact 24 (f := .glo "_law_figures") rfl) (c1.def_ 24 (d := dOf "_law_figures" s__law_figures) rfl) (fun _ _ _ _ _ _ us hl => match us, hl with | [_], _ => rfl)
  obtain ⟨f__law_text, fd__law_text, D__law_text, B__law_text⟩ := defF_of (x := "_law_text") (st := s__law_text) (ps := ["a"]) X G (c0.fact 25 (f := .glo "_law_text") rfl) (c1.def_ 25 (d := dOf "_law_text" s__law_text) rfl) (fun _ _ _ _ _ _ us hl => match us, hl with | [_], _ => rfl)
  obtain ⟨f__law_reading, fd__law_reading, D__law_reading, B__law_reading⟩ := defF_of (x := "_law_reading") (st := s__law_reading) (ps := ["text"]) X G (c0.fact 26 (f := .glo "_law_reading") rfl) (c1.def_ 26 (d := dOf "_law_reading" s__law_reading) rfl) (fun _ _ _ _ _ _ us hl => match us, hl with | [_], _ => rfl)
  obtain ⟨f__law_text_holds, fd__law_text_holds, D__law_text_holds, B__law_text_holds⟩ := defF_of (x := "_law_text_holds") (st := s__law_text_holds) (ps := ["text"]) X G (c0.fact 27 (f := .glo "_law_text_holds") rfl) (c1.def_ 27 (d := dOf "_law_text_holds" s__law_text_holds) rfl) (fun _ _ _ _ _ _ us hl => match us, hl with | [_], _ => rfl)
  obtain ⟨f__law_writing_holds, fd__law_writing_holds, D__law_writing_holds, B__law_writing_holds⟩ := defF_of (x := "_law_writing_holds") (st := s__law_writing_holds) (ps := ["a"]) X G (c0.fact 28 (f := .glo "_law_writing_holds") rfl) (c1.def_ 28 (d := dOf "_law_writing_holds" s__law_writing_holds) rfl) (fun _ _ _ _ _ _ us hl => match us, hl with | [_], _ => rfl)
  obtain ⟨f__law_wrong_texts, fd__law_wrong_texts, D__law_wrong_texts, B__law_wrong_texts⟩ := defF_of (x := "_law_wrong_texts") (st := s__law_wrong_texts) (ps := ["a"]) X G (c0.fact 29 (f := .glo "_law_wrong_texts") rfl) (c1.def_ 29 (d := dOf "_law_wrong_texts" s__law_wrong_texts) rfl) (fun _ _ _ _ _ _ us hl => match us, hl with | [_], _ => rfl)
  obtain ⟨f__law_long_fraction, fd__law_long_fraction, D__law_long_fraction, B__law_long_fraction⟩ := defF_of (x := "_law_long_fraction") (st := s__law_long_fraction) (ps := ["box"]) X G (c0.fact 30 (f := .glo "_law_long_fraction") rfl) (c1.def_ 30 (d := dOf "_law_long_fraction" s__law_long_fraction) rfl) (fun _ _ _ _ _ _ us hl => match us, hl with | [_], _ => rfl)
  obtain ⟨f__law_sign, fd__law_sign, D__law_sign, B__law_sign⟩ := defF_of (x := "_law_sign") (st := s__law_sign) (ps := ["box"]) X G (c0.fact 31 (f := .glo "_law_sign") rfl) (c1.def_ 31 (d := dOf "_law_sign" s__law_sign) rfl) (fun _ _ _ _ _ _ us hl => match us, hl with | [_], _ => rfl)
  obtain ⟨f__law_bent, fd__law_bent, D__law_bent, B__law_bent⟩ := defF_of (x := "_law_bent") (st := s__law_bent) (ps := ["box", "text"]) X G (c0.fact 32 (f := .glo "_law_bent") rfl) (c1.def_ 32 (d := dOf "_law_bent" s__law_bent) rfl) (fun _ _ _ _ _ _ us hl => match us, hl with | [_, _], _ => rfl)
  obtain ⟨f__law_texts_hold, fd__law_texts_hold, D__law_texts_hold, B__law_texts_hold⟩ := defF_of (x := "_law_texts_hold") (st := s__law_texts_hold) (ps := ["box"]) X G (c0.fact 33 (f := .glo "_law_texts_hold") rfl) (c1.def_ 33 (d := dOf "_law_texts_hold" s__law_texts_hold) rfl) (fun _ _ _ _ _ _ us hl => match us, hl with | [_], _ => rfl)
  obtain ⟨f__law_places, fd__law_places, D__law_places, B__law_places⟩ := defF_of (x := "_law_places") (st := s__law_places) (ps := ["box"]) X G (c0.fact 34 (f := .glo "_law_places") rfl) (c1.def_ 34 (d := dOf "_law_places" s__law_places) rfl) (fun _ _ _ _ _ _ us hl => match us, hl with | [_], _ => rfl)
  obtain ⟨f__law_decimal_holds, fd__law_decimal_holds, D__law_decimal_holds, B__law_decimal_holds⟩ := defF_of (x := "_law_decimal_holds") (st := s__law_decimal_holds) (ps := ["a", "places"]) X G (c0.fact 35 (f := .glo "_law_decimal_holds") rfl) (c1.def_ 35 (d := dOf "_law_decimal_holds" s__law_decimal_holds) rfl) (fun _ _ _ _ _ _ us hl => match us, hl with | [_, _], _ => rfl)
  obtain ⟨f__law_decimals_hold, fd__law_decimals_hold, D__law_decimals_hold, B__law_decimals_hold⟩ := defF_of (x := "_law_decimals_hold") (st := s__law_decimals_hold) (ps := ["box"]) X G (c0.fact 36 (f := .glo "_law_decimals_hold") rfl) (c1.def_ 36 (d := dOf "_law_decimals_hold" s__law_decimals_hold) rfl) (fun _ _ _ _ _ _ us hl => match us, hl with | [_], _ => rfl)
  obtain ⟨f__law_less, fd__law_less, D__law_less, B__law_less⟩ := defF_of (x := "_law_less") (st := s__law_less) (ps := ["a", "b"]) X G (c0.fact 37 (f := .glo "_law_less") rfl) (c1.def_ 37 (d := dOf "_law_less" s__law_less) rfl) (fun _ _ _ _ _ _ us hl => match us, hl with | [_, _], _ => rfl)
  obtain ⟨f_stretch_plus, fd_stretch_plus, D_stretch_plus, B_stretch_plus⟩ := defF_of (x := "stretch_plus") (st := s_stretch_plus) (ps := ["s", "t"]) X G (c0.fact 38 (f := .glo "stretch_plus") rfl) (c1.def_ 38 (d := dOf "stretch_plus" s_stretch_plus) rfl) (fun _ _ _ _ _ _ us hl => match us, hl with | [_, _], _ => rfl)
  obtain ⟨f_stretch_times, fd_stretch_times, D_stretch_times, B_stretch_times⟩ := defF_of (x := "stretch_times") (st := s_stretch_times) (ps := ["s", "t"]) X G (c0.fact 39 (f := .glo "stretch_times") rfl) (c1.def_ 39 (d := dOf "stretch_times" s_stretch_times) rfl) (fun _ _ _ _ _ _ us hl => match us, hl with | [_, _], _ => rfl)
  obtain ⟨f__law_stretch, fd__law_stretch, D__law_stretch, B__law_stretch⟩ := defF_of (x := "_law_stretch") (st := s__law_stretch) (ps := ["box"]) X G (c0.fact 40 (f := .glo "_law_stretch") rfl) (c2.def_ 0 (d := dOf "_law_stretch" s__law_stretch) rfl) (fun _ _ _ _ _ _ us hl => match us, hl with | [_], _ => rfl)
  obtain ⟨f__law_point, fd__law_point, D__law_point, B__law_point⟩ := defF_of (x := "_law_point") (st := s__law_point) (ps := ["box", "stretch"]) X G (c0.fact 41 (f := .glo "_law_point") rfl) (c2.def_ 1 (d := dOf "_law_point" s__law_point) rfl) (fun _ _ _ _ _ _ us hl => match us, hl with | [_, _], _ => rfl)
  obtain ⟨f__law_due, fd__law_due, D__law_due, B__law_due⟩ := defF_of (x := "_law_due") (st := s__law_due) (ps := ["deed", "a", "b"]) X G (c0.fact 42 (f := .glo "_law_due") rfl) (c2.def_ 2 (d := dOf "_law_due" s__law_due) rfl) (fun _ _ _ _ _ _ us hl => match us, hl with | [_, _, _], _ => rfl)
  obtain ⟨f__law_joined, fd__law_joined, D__law_joined, B__law_joined⟩ := defF_of (x := "_law_joined") (st := s__law_joined) (ps := ["deed", "s", "t"]) X G (c0.fact 43 (f := .glo "_law_joined") rfl) (c2.def_ 3 (d := dOf "_law_joined" s__law_joined) rfl) (fun _ _ _ _ _ _ us hl => match us, hl with | [_, _, _], _ => rfl)
  obtain ⟨f__law_joined_holds, fd__law_joined_holds, D__law_joined_holds, B__law_joined_holds⟩ := defF_of (x := "_law_joined_holds") (st := s__law_joined_holds) (ps := ["deed", "told", "s", "t"]) X G (c0.fact 44 (f := .glo "_law_joined_holds") rfl) (c2.def_ 4 (d := dOf "_law_joined_holds" s__law_joined_holds) rfl) (fun _ _ _ _ _ _ us hl => match us, hl with | [_, _, _, _], _ => rfl)
  obtain ⟨f__law_stretches_hold, fd__law_stretches_hold, D__law_stretches_hold, B__law_stretches_hold⟩ := defF_of (x := "_law_stretches_hold") (st := s__law_stretches_hold) (ps := ["box"]) X G (c0.fact 45 (f := .glo "_law_stretches_hold") rfl) (c2.def_ 5 (d := dOf "_law_stretches_hold" s__law_stretches_hold) rfl) (fun _ _ _ _ _ _ us hl => match us, hl with | [_], _ => rfl)
  obtain ⟨f_law, fd_law, D_law, B_law⟩ := defF_of (x := "law") (st := s_law) (ps := ["script"]) X G (c0.fact 46 (f := .glo "law") rfl) (c2.def_ 6 (d := dOf "law" s_law) rfl) (fun _ _ _ _ _ _ us hl => match us, hl with | [_], _ => rfl)
  have z_len := He.free_ok X G (c0.fact 47 (f := .free "len") rfl)
  have z_tuple := He.free_ok X G (c0.fact 48 (f := .free "tuple") rfl)
  have z_int := He.free_ok X G (c0.fact 49 (f := .free "int") rfl)
  have z_bool := He.free_ok X G (c0.fact 50 (f := .free "bool") rfl)
  have z_range := He.free_ok X G (c0.fact 51 (f := .free "range") rfl)
  have z_isinstance := He.free_ok X G (c0.fact 52 (f := .free "isinstance") rfl)
  have z_abs := He.free_ok X G (c0.fact 53 (f := .free "abs") rfl)
  have z_min := He.free_ok X G (c0.fact 54 (f := .free "min") rfl)
  have z_str := He.free_ok X G (c0.fact 55 (f := .free "str") rfl)
  have z_ValueError := He.free_ok X G (c0.fact 56 (f := .free "ValueError") rfl)
  have z_divmod := He.free_ok X G (c0.fact 57 (f := .free "divmod") rfl)
  have z_max := He.free_ok X G (c0.fact 58 (f := .free "max") rfl)
  have T : Txt mg := ⟨z_len, z_tuple, z_int, z_bool, z_range, z_isinstance, z_abs, z_min⟩
  obtain ⟨e_0, r_0⟩ := He.ba e
  obtain ⟨e_1, r_1⟩ := He.ba r_0
  obtain ⟨e_2, r_2⟩ := He.ba r_1
  obtain ⟨e_3, r_3⟩ := He.ba r_2
  obtain ⟨e_4, r_4⟩ := He.ba r_3
  have e_5 := r_4
  have BE := baseB_ok X G e_0
  have KE_DivisionByZero := kindB_ok X G (x := "DivisionByZero") (all_at e_1 0 rfl)
  have KE_InvalidStretch := kindB_ok X G (x := "InvalidStretch") (all_at e_1 1 rfl)
  have KE_InvalidText := kindB_ok X G (x := "InvalidText") (all_at e_1 2 rfl)
  have X_DivisionByZero := excB_ok KE_DivisionByZero (all_at e_2 0 rfl)
  have OI_InvalidText := ownB_ok (q := "InvalidText.__init__") (st := si_InvalidText) (ps := ["self", "at"]) KE_InvalidText (all_at e_3 0 rfl) (c2.def_ 7 (d := dIn "InvalidText" "InvalidText.__init__" si_InvalidText) rfl) (fun _ _ _ _ _ _ us hl => match us, hl with | [_, _], _ => rfl)
  have NA_InvalidText_at := noat_ok (c0.fact 59 (f := .noat "InvalidText" "at") rfl)
  have m_gcd := bltB_ok X G e_4
  -- more
  obtain ⟨t_DIGITS, G__DIGITS⟩ := He.str_ok X G (c0.fact 60 (f := .str "_DIGITS" "0123456789") rfl)
  obtain ⟨t_RUN, G__RUN⟩ := He.int_ok X G (c0.fact 61 (f := .int "_RUN" 600) rfl)
  obtain ⟨u1, u2⟩ := He.ba e_5
  have nd := of_decide_eq_true u1
  have ne := not_in u2
  simp only [List.map_cons, List.map_nil, List.nodup_cons, List.mem_cons, List.not_mem_nil, or_false, not_or] at nd ne
  have e1 := KE_InvalidText.exm
  have e2 := KE_InvalidText.kit KE_InvalidStretch nd.2.1 (Ne.symm ne.2.1)
  have e3 := KE_InvalidText.kit KE_DivisionByZero nd.1.2 (Ne.symm ne.1)
  have e4 := KE_InvalidText.kitE BE
  have e5 := KE_InvalidText.kitV
  have XC_InvalidText := KE_InvalidText.x
  have G_CellspireError := BE.g
  have G_DivisionByZero := KE_DivisionByZero.g
  have G_InvalidStretch := KE_InvalidStretch.g
  have G_InvalidText := KE_InvalidText.g
  have e0 := hfa.symm.trans D_law.mgf
  cases e0
  exact ⟨fd_law, fun s v => B_law s [v] rfl, fun base _ _ => all_law (T := T) (z_str := z_str) (z_divmod := z_divmod) (z_max := z_max) (z_ValueError := z_ValueError) (m_gcd := m_gcd) (G__RUN := G__RUN) (G__DIGITS := G__DIGITS) (X_DivisionByZero := X_DivisionByZero) (OI_InvalidText := OI_InvalidText) (NA_InvalidText_at := NA_InvalidText_at) (G_CellspireError := G_CellspireError) (G_DivisionByZero := G_DivisionByZero) (G_InvalidStretch := G_InvalidStretch) (G_InvalidText := G_InvalidText) (XC_InvalidText := XC_InvalidText) (e1 := e1) (e2 := e2) (e3 := e3) (e4 := e4) (e5 := e5) (D_sign_of := D_sign_of) (D_compare := D_compare) (D__law_is_integer := D__law_is_integer) (D__law_same := D__law_same) (D__law_cell := D__law_cell) (D__law_box := D__law_box) (D__law_take := D__law_take) (D__law_turned := D__law_turned) (D__law_power := D__law_power) (D__law_limbs := D__law_limbs) (D__law_gcd := D__law_gcd) (D__law_lowest := D__law_lowest) (D__law_long := D__law_long) (D__law_number := D__law_number) (D_fraction := D_fraction) (D_plus := D_plus) (D_times := D_times) (D_whole_power := D_whole_power) (D__digits := D__digits) (D__write_integer := D__write_integer) (D_write_fraction := D_write_fraction) (D__is_plain := D__is_plain) (D_decimal := D_decimal) (D_read_fraction := D_read_fraction) (D__law_figures := D__law_figures) (D__law_text := D__law_text) (D__law_reading := D__law_reading) (D__law_text_holds := D__law_text_holds) (D__law_writing_holds := D__law_writing_holds) (D__law_wrong_texts := D__law_wrong_texts) (D__law_long_fraction := D__law_long_fraction) (D__law_sign := D__law_sign) (D__law_bent := D__law_bent) (D__law_texts_hold := D__law_texts_hold) (D__law_places := D__law_places) (D__law_decimal_holds := D__law_decimal_holds) (D__law_decimals_hold := D__law_decimals_hold) (D__law_less := D__law_less) (D_stretch_plus := D_stretch_plus) (D_stretch_times := D_stretch_times) (D__law_stretch := D__law_stretch) (D__law_point := D__law_point) (D__law_due := D__law_due) (D__law_joined := D__law_joined) (D__law_joined_holds := D__law_joined_holds) (D__law_stretches_hold := D__law_stretches_hold) (D_law := D_law)⟩
end My
open PySem PySem.W PySem.Calls PyProof.Rows
theorem PySem.Challenge.cw_cellspire_k02_decimals_texts_and_stretch_holds : PySem.Challenge.rw_cellspire_k02_decimals_texts_and_stretch.Holds := by
  w_on; o_law
  refine HandSHeadRun.head_imp (r := OpenLaw.row PySem.Challenge.rw_cellspire_k02_decimals_texts_and_stretch) (q := view (OpenLaw.row PySem.Challenge.rw_cellspire_k02_decimals_texts_and_stretch).prog [0, 56]) (H := MyH.hk) (ob := fun s => My.obsP MyH.as_ MyH.ps_ MyH.ex (HandSHeadRun.getT s)) (M := 20000) (loose := MyH.loose) (d := HandSHeadRun.topDef (OpenLaw.row PySem.Challenge.rw_cellspire_k02_decimals_texts_and_stretch).prog 56) (kwd := []) MyH.ob_eq
    MyH.run (by kernel_rfl) (by kernel_rfl) (by kernel_rfl) (by rfl) (by first | assumption | decide +kernel) (by decide +kernel) ⟨rfl, rfl, rfl, rfl, rfl, by decide +kernel⟩ ?hw ?hc
  case hw => w_witness2
  case hc =>
    refine My.walk_own (l := PySem.Challenge.rw_cellspire_k02_decimals_texts_and_stretch) (n := 63) (k := 7) (x := "script") (CX := fun w => L2.CX (PySem.Challenge.rw_cellspire_k02_decimals_texts_and_stretch).prog w) rfl (by decide) (by kernel_rfl) ⟨rfl, by decide, by decide⟩ ?F (fun _ _ _ _ _ h => My.cx_no h)
    intro w mg fa h Y G hmg0
    obtain ⟨K, KX, c, e⟩ := Y
    have hmg : mg ("law" : PySem.Str) = some (.ref fa) := by
      have e1 : (HandSHeadRun.topDef (OpenLaw.row PySem.Challenge.rw_cellspire_k02_decimals_texts_and_stretch).prog 56).name = ("law" : PySem.Str) := by kernel_rfl
      rw [← e1]
      exact hmg0
    obtain ⟨fd, hb, hF⟩ := My.facts (P := (PySem.Challenge.rw_cellspire_k02_decimals_texts_and_stretch).prog) (w := w) KX G hmg c e
    exact ⟨K, fd, My.sp_law K, KX, hb, fun H a ns hl _ hS => ⟨a, ns, rfl, hS, hl, fun _ => rfl⟩, hF⟩
