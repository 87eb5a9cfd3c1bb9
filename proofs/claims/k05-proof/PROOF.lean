import PyProof.Rows.All
import Wide.All
import OpenK.AllK
import Wide.FinOn
import KE.KStateDown
import HandS.Words
import HandS.Head0
import HandS.Head1
import HandS.Head2
import HandS.Head3
import HandS.HeadEnd
import HandS.HeadHook1
import HandS.HeadHook2
import HandS.HeadNt
import HandS.ForMost
import HandS.ForExc
import HandS.Wide
import HandS.WideBits
import HandS.TupAny
import HandS.Rev
import HandS.Walk
import HandS.IsInst
import HandS.ExcIs
import HandS.Small
import HandS.Gcd
import HandS.Defaults
import HandS.Evl
import KE.GoesMore
import KE.RegKIsAll
import HandS.ExcInit
import HandS.ExcInitHot
import HandS.ExcField
import HandS.HotCalls
import HandS.ExcCtx
import KE.KExcIs
import HandS.ExcValue
import HandS.Text
import HandS.Codes
import HandS.StrMore
import HandS.Flow
import PyProof.Rows.StrPadWhole
import KE.KIntText
import HandS.Steps
import KE.KOpsOwn
import HandS.ClsMeth
import HandS.OwnEq
import HandS.WordsExc
import KE.KSortTup
import HandS.Base
import HandS.Call
import HandS.List
import HandS.Sort
import HandS.SortOrd
import HandS.SortRule
import HandS.SortKw
import HandS.Dict
import HandS.DictTup
import HandS.Iter
import HandS.Zip
import HandS.Flt
import KE.KCallOwn
import HandS.ExcOwn
import HandS.FltList
import HandS.FStr
import KE.KRevSl
import HandS.Style
import PySem.Challenge.RW_cellspire_k05_poly_operators_and_parts
set_option Elab.async false
set_option linter.all false
set_option maxRecDepth 100000
set_option maxHeartbeats 4000000
/-! the head read by a Hook, in parts; what is looked at -/
namespace My
open PySem PySem.Spec PyProof.Rows L2
/-! ### the Hook: facts of defs and names in parts, each looked at by a run of its own, and a look of one's own; over written addresses -/
abbrev Pt : Type := List He.Fa × List He.DefD
abbrev Pt.ob (as : List Addr) (p : Pt) (g : Addr → Option Obj) : He.AlD := He.obsD p.1 p.2 (He.frG g as)
theorem map_eqs {α β : Type} {f v : α → β} {l : List α} (h : l.map f = l.map v) {p : α} (m : p ∈ l) : f p = v p := by
  induction l with
  | nil => cases m
  | cons a l ih =>
    rw [List.map_cons, List.map_cons] at h
    injection h with h1 h2
    rcases List.mem_cons.mp m with rfl | m
    · exact h1
    · exact ih h2 m
def obsP (as : List Addr) (ps : List Pt) (ex : PySem.W.Frag → Bool) (g : Addr → Option Obj) : List He.AlD × Bool := (ps.map fun p => p.ob as g, ex (He.frG g as))
def hookP (as : List Addr) (ps : List Pt) (ex : PySem.W.Frag → Bool) : PySem.W.Hook where
  α := List He.AlD × Bool
  obs := fun s => obsP as ps ex s.heap.get?
  val := fun _ => (ps.map fun p : Pt => He.valD p.2, true)
  says := fun _ h => ∃ K : PySem.W.Frag, K.In h ∧ (∀ p ∈ ps, He.SaysD p.1 p.2 K) ∧ ex K = true
  of := fun _ s e => ⟨He.frG s.heap.get? as, He.frG_in, fun p m => map_eqs (f := fun p : Pt => p.ob as s.heap.get?) (v := fun p : Pt => He.valD p.2) (congrArg Prod.fst e) m, congrArg Prod.snd e⟩
  keeps := by
    intro _ _ _ ⟨K, hK, c⟩ k
    exact ⟨K, hK.keeps k, c⟩
theorem obsP_eq {as : List Addr} {ps : List Pt} {ex : PySem.W.Frag → Bool} {g : Addr → Option Obj} {s : Shared} (h : ∀ a, g a = s.heap.get? a) : obsP as ps ex g = (hookP as ps ex).obs s := by
  have : g = s.heap.get? := by
    funext a
    exact h a
  subst this
  rfl
/-- a run that shows v -/
abbrev hv {α : Type} (v : α) : PySem.W.Hook := ⟨α, fun _ => v, fun _ => v, fun _ _ => True, fun _ _ _ => trivial, fun _ _ _ _ _ => trivial⟩
theorem opt_all {X A B α γ : Type} {o : Option X} {L : X → A} {S : X → B} {l : A} {b : B} {ps : List γ} {f : γ → X → α} {v : γ → α} {e : X → Bool} (a : ∀ p ∈ ps, o.map (fun x => (L x, S x, f p x)) = some (l, b, v p))
    (c : o.map (fun x => (L x, S x, e x)) = some (l, b, true)) : o.map (fun x => (L x, S x, (ps.map fun p => f p x, e x))) = some (l, b, (ps.map v, true)) := by
  cases o with
  | none => cases c
  | some x =>
    rw [Option.map_some] at c ⊢
    injection c with c
    injection c with c1 c2
    injection c2 with c2 c3
    rw [c1, c2, c3]
    have : (ps.map fun p => f p x) = ps.map v := List.map_congr_left fun p m => by
      have z := a p m
      rw [Option.map_some] at z
      injection z with z
      injection z with z1 z2
      injection z2
    rw [this]
theorem runs {r : PySem.W.OpenRow} {q : Program} {M : Nat} {loose : List Str} {w : World} {as : List Addr} {ps : List Pt} {ex : PySem.W.Frag → Bool}
    (a : ∀ p ∈ ps, HandSHeadRun.RunEqI r q (hv (He.valD p.2)) (fun s => p.ob as (HandSHeadRun.getT s)) M loose w) (c : HandSHeadRun.RunEqI r q (hv true) (fun s => ex (He.frG (HandSHeadRun.getT s) as)) M loose w) :
    HandSHeadRun.RunEqI r q (hookP as ps ex) (fun s => obsP as ps ex (HandSHeadRun.getT s)) M loose w := by
  unfold HandSHeadRun.RunEqI at a c ⊢
  exact opt_all (γ := Pt) (X := Shared × PySem.W.SharedT) (f := fun p x => p.ob as (HandSHeadRun.getT x.2)) (v := fun p => He.valD p.2) (e := fun x => ex (He.frG (HandSHeadRun.getT x.2) as)) a c
theorem all_mem {α : Type} {p : α → Prop} {ps : List α} (h : ∀ a ∈ ps, p a) (i : Nat) {a : α} (e : ps[i]? = some a := by rfl) : p a := h a (List.mem_of_getElem? e)
/-- a def of the top -/
abbrev dOf (x : Str) (st : Stmt) : He.DefD := ⟨(x, none), x, x, defArgs st, defBody st, defScope st, [], []⟩
abbrev dIn (C q : Str) (st : Stmt) : He.DefD := ⟨(C, some "__init__"), "__init__", q, defArgs st, defBody st, defScope st, [], []⟩
abbrev gE (K : PySem.W.Frag) : Addr := He.ga K "CellspireError"
def baseB (K : PySem.W.Frag) : Bool := (He.Fa.glo "CellspireError").ok K && ((PySem.W.clsIn K (gE K)).isSome && decide (PySem.W.typeIn K (.ref (gE K)) = some (.type "type")))
def slB : List (Option Value) → Bool
  | [_, _, _, _, some (.builtin n), _] => decide (n = "ValueError.__new__")
  | _ => false
def clsB (C E : Addr) : Obj → Bool
  | ⟨.type t, _, .cls cd, sl⟩ => decide (t = "type") && (decide (cd.mro = [.ref C, .ref E, .type "ValueError", .type "Exception", .type "BaseException", .type "object"]) && (cd.hasDict && (!cd.hasDel && slB sl.toList)))
  | _ => false
def kindB (K : PySem.W.Frag) (x : Str) : Bool := (He.Fa.glo x).ok K && ((match K.lookup (He.ga K x) with
    | some o => clsB (He.ga K x) (gE K) o
    | none => false) && (decide (PySem.W.typeIn K (.ref (He.ga K x)) = some (.type "type")) && (He.eqO (PySem.W.findIn K (.ref (He.ga K x)) "__getattribute__") (some (some (.builtin "BaseException.__getattribute__"))) && (He.eqO (PySem.W.findIn K (.ref (He.ga K x)) "__getattr__") (some none) &&
    (decide (PySem.W.subIn K (.ref (He.ga K x)) (.type "BaseException") = some true) && (PySem.W.hasDictIn K (He.ga K x) && (He.eqO (PySem.W.findIn K (.ref (He.ga K x)) "__class__") (some (some (.builtin "object.__class__"))) && (He.eqO (PySem.W.specialIn K (.builtin "object.__class__") "__get__") (some (some (.builtin "getset_descriptor.__get__"))) &&
    (decide (PySem.W.takesIn K (.builtin "object.__class__") = some true) && decide (PySem.W.mroIn K (He.ga K x) (.type "object") = some true))))))))))
def excB (K : PySem.W.Frag) (x : Str) : Bool := PySem.W.excIn K (He.ga K x) [.type "ValueError", .type "Exception", .type "BaseException", .type "object"] "ValueError.__new__" && PySem.W.keepIn K (.ref (He.ga K x))
def ownB (K : PySem.W.Frag) (x : Str) : Bool := He.eqO (PySem.W.findIn K (.ref (He.ga K x)) "__setattr__") (some (some (.builtin "object.__setattr__"))) && (PySem.W.keepIn K (.ref (He.ga K x)) && (He.eqO (PySem.W.findIn K (.ref (He.ga K x)) "__init__") (some (some (.ref (He.fAd K (x, some "__init__"))))) &&
  decide (PySem.W.typeIn K (.ref (He.fAd K (x, some "__init__"))) = some (.type "function"))))
/-- the module's name x is this built-in -/
def bltB (K : PySem.W.Frag) (x : Str) (n : String) : Bool := He.eqO (PySem.W.nsIn K mainGlobals x) (some (some (.builtin n)))
end My
/-! the head read by a Hook, in parts, defs at any address (methods, static methods too); what is looked at of a class -/
namespace My
open PySem PySem.Spec PyProof.Rows L2
abbrev PtA : Type := List He.Fa × List He5.DefA
abbrev PtA.ob (as : List Addr) (p : PtA) (g : Addr → Option Obj) : He.AlD := He5.obsA p.1 p.2 (He.frG g as)
def obsQ (as : List Addr) (ps : List PtA) (ex : PySem.W.Frag → Bool) (g : Addr → Option Obj) : List He.AlD × Bool := (ps.map fun p => p.ob as g, ex (He.frG g as))
def hookQ (as : List Addr) (ps : List PtA) (ex : PySem.W.Frag → Bool) : PySem.W.Hook where
  α := List He.AlD × Bool
  obs := fun s => obsQ as ps ex s.heap.get?
  val := fun _ => (ps.map fun p : PtA => He5.valA p.2, true)
  says := fun _ h => ∃ K : PySem.W.Frag, K.In h ∧ (∀ p ∈ ps, He5.SaysA p.1 p.2 K) ∧ ex K = true
  of := fun _ s e => ⟨He.frG s.heap.get? as, He.frG_in, fun p m => map_eqs (f := fun p : PtA => p.ob as s.heap.get?) (v := fun p : PtA => He5.valA p.2) (congrArg Prod.fst e) m, congrArg Prod.snd e⟩
  keeps := by
    intro _ _ _ ⟨K, hK, c⟩ k
    exact ⟨K, hK.keeps k, c⟩
theorem obsQ_eq {as : List Addr} {ps : List PtA} {ex : PySem.W.Frag → Bool} {g : Addr → Option Obj} {s : Shared} (h : ∀ a, g a = s.heap.get? a) : obsQ as ps ex g = (hookQ as ps ex).obs s := by
  have : g = s.heap.get? := by
    funext a
    exact h a
  subst this
  rfl
theorem runsQ {r : PySem.W.OpenRow} {q : Program} {M : Nat} {loose : List Str} {w : World} {as : List Addr} {ps : List PtA} {ex : PySem.W.Frag → Bool}
    (a : ∀ p ∈ ps, HandSHeadRun.RunEqI r q (hv (He5.valA p.2)) (fun s => p.ob as (HandSHeadRun.getT s)) M loose w) (c : HandSHeadRun.RunEqI r q (hv true) (fun s => ex (He.frG (HandSHeadRun.getT s) as)) M loose w) :
    HandSHeadRun.RunEqI r q (hookQ as ps ex) (fun s => obsQ as ps ex (HandSHeadRun.getT s)) M loose w := by
  unfold HandSHeadRun.RunEqI at a c ⊢
  exact opt_all (γ := PtA) (X := Shared × PySem.W.SharedT) (f := fun p x => p.ob as (HandSHeadRun.getT x.2)) (v := fun p => He5.valA p.2) (e := fun x => ex (He.frG (HandSHeadRun.getT x.2) as)) a c
/-- a def of the top; a method; a static method; a def with defaults -/
abbrev dTop (x : Str) (st : Stmt) : He5.DefA := ⟨fun K => He.fAd K (x, none), x, x, defArgs st, defBody st, defScope st, [], []⟩
abbrev dTopD (x : Str) (st : Stmt) (dv : List He.Dv) : He5.DefA := ⟨fun K => He.fAd K (x, none), x, x, defArgs st, defBody st, defScope st, dv, []⟩
abbrev dMet (C m q : Str) (st : Stmt) (dv : List He.Dv) : He5.DefA := ⟨fun K => He.fAd K (C, some m), m, q, defArgs st, defBody st, defScope st, dv, []⟩
abbrev dSta (C m q : Str) (st : Stmt) : He5.DefA := ⟨fun K => He5.wf K (He.ga K C) "staticmethod" m, m, q, defArgs st, defBody st, defScope st, [], []⟩
/-- an own plain class x with instances -/
def polyB (K : PySem.W.Frag) (x f : Str) : Bool := (He.Fa.glo x).ok K && ((He.Fa.cls x).ok K && ((He.Fa.noat x f).ok K && (PySem.W.selfFirst K (He.ga K x) && (He.eqO (PySem.W.findIn K (.ref (He.ga K x)) "__class__") (some (some (.builtin "object.__class__"))) &&
  (He.eqO (PySem.W.specialIn K (.builtin "object.__class__") "__get__") (some (some (.builtin "getset_descriptor.__get__"))) && (decide (PySem.W.takesIn K (.builtin "object.__class__") = some true) && (decide (PySem.W.mroIn K (He.ga K x) (.type "object") = some true) &&
  (decide (PySem.W.kitOne K (.ref (He.ga K x)) (.ref (He.ga K x)) = some true) && ((["tuple", "list", "str", "NoneType", "int", "bool"] : List String).all (fun t => decide (PySem.W.kitOne K (.type t) (.ref (He.ga K x)) = some false)) &&
  (PySem.W.notFirst K (He.ga K x) (.ref (He.ga K x)) && (["tuple", "list", "str", "NoneType", "int", "bool"] : List String).all (fun t => PySem.W.notFirst K (He.ga K x) (.type t))))))))))))
/-- a static method m of the class x, read off the class -/
def staB (K : PySem.W.Frag) (x m : Str) : Bool := He5.wrapB K (He.ga K x) "staticmethod" "staticmethod.__get__" m && PySem.W.keepIn K (.ref (He5.wf K (He.ga K x) "staticmethod" m))
def creadB (K : PySem.W.Frag) (x : Str) : Bool := PySem.W.readsIn K (He.ga K x) (.type "type") && He.eqO (PySem.W.specialIn K (.ref (He.ga K x)) "__getattribute__") (some (some (.builtin "type.__getattribute__")))
/-- the object at a is a tuple of these -/
def tupA (K : PySem.W.Frag) (a : Addr) (vs : List V) : Bool := match K.lookup a with
  | some ⟨.type c, _, .seq its _, _⟩ => decide (c = "tuple") && (decide (its.size ≤ sizeLine) && He.relAll vs its.toList)
  | _ => false
theorem tupA_ok {K : PySem.W.Frag} {a : Addr} {vs : List V} (h : tupA K a vs = true) (H : Hp) : SqT K H a vs := by
  unfold tupA at h
  cases q : K.lookup a with
  | none =>
    rw [q] at h
    cases h
  | some o =>
    obtain ⟨oc, od, dt, osl⟩ := o
    rw [q] at h
    cases oc with
    | type c =>
      cases dt with
      | seq its n =>
        obtain ⟨h1, h2⟩ := He.ba (show (decide (c = "tuple") && (decide (its.size ≤ sizeLine) && He.relAll vs its.toList)) = true from h)
        obtain ⟨h3, h4⟩ := He.ba h2
        exact .inr ⟨_, its, n, q, congrArg Value.type (of_decide_eq_true h1), rfl, of_decide_eq_true h3, He.relAll_ok h4⟩
      | _ => cases h
    | _ => cases dt <;> cases h
end My
namespace MyH
open My PySem PySem.Spec PyProof.Rows L2
def topR (i : Nat) : Stmt := PySem.Challenge.pw_cellspire_k05_poly_operators_and_parts.main.body.getD i (.Pass ⟨0, 0, 0, 0⟩)
def fa0 : List He.Fa := [.glo "_changed", .glo "_is_term", .glo "_mixed", .glo "_in_order", .glo "_collected", .mkr "Poly", .glo "fraction", .glo "whole_power", .glo "_digits", .glo "_write_integer", .glo "write_fraction", .glo "gcd_of", .glo "_of_terms", .glo "_spread", .glo "_multiplied", .meth "Poly" "__add__", .meth "Poly" "__sub__", .meth "Poly" "__mul__", .meth "Poly" "__neg__", .meth "Poly" "__eq__", .meth "Poly" "degree", .glo "place_of", .meth "Poly" "degree_in", .meth "Poly" "unknowns", .glo "_ladder", .meth "Poly" "coefficients", .meth "Poly" "value", .meth "Poly" "put", .meth "Poly" "as_row", .meth "Poly" "slope"]
def fa1 : List He.Fa := [.meth "Poly" "primitive", .glo "_term_text", .glo "_text", .meth "Poly" "__str__", .glo "_law_box", .glo "_law_mix", .glo "_law_draw", .glo "_law_gcd", .glo "_law_number", .glo "_law_is_int", .glo "_law_same", .glo "_law_power", .glo "_law_gather", .glo "_law_join", .glo "_law_multiply", .glo "_law_is", .glo "_law_moved", .glo "_law_terms", .glo "_law_second", .glo "_law_made", .glo "_law_text", .glo "_law_fraction", .glo "_law_equal", .glo "_law_operators", .glo "_law_value", .glo "_law_coefficients", .glo "_law_whole", .glo "_law_row_of", .glo "_law_parts", .glo "_law_simple"]
def fa2 : List He.Fa := [.glo "_law_refuses_name", .glo "_law_refuses_terms", .glo "_law_refusals", .glo "law", .glo "Poly", .free "len", .free "tuple", .free "int", .free "bool", .free "range", .free "isinstance", .free "abs", .free "min", .free "max", .free "enumerate", .free "sorted", .free "zip", .free "all", .free "list", .free "str", .free "ValueError", .free "divmod", .noat "InvalidUnknown" "unknown", .int "_RUN" 600, .glo "UNKNOWNS"]
def fa : List He.Fa := fa0 ++ (fa1 ++ (fa2))
def loose0 : List Str := ["CellspireError", "DivisionByZero", "NotOneUnknown", "InvalidPoly", "InvalidUnknown", "_RUN", "UNKNOWNS", "Poly", "whole_power", "gcd_of", "fraction", "_digits", "_write_integer", "write_fraction", "_of_terms", "_is_term", "_changed", "_collected", "_mixed", "_multiplied", "_spread", "_in_order", "_ladder", "_term_text", "_text", "place_of", "_law_box", "_law_mix", "_law_draw", "_law_is_int"]
def loose1 : List Str := ["_law_gcd", "_law_number", "_law_gather", "_law_join", "_law_multiply", "_law_is", "_law_terms", "_law_second", "_law_made", "_law_text", "_law_equal", "_law_operators", "_law_fraction", "_law_power", "_law_value", "_law_moved", "_law_coefficients", "_law_same", "_law_whole", "_law_row_of", "_law_parts", "_law_simple", "_law_refuses_name", "_law_refuses_terms", "_law_refusals"]
def loose : List Str := loose0 ++ (loose1)
abbrev R : PySem.W.OpenRow := PySem.W.OpenLaw.row PySem.Challenge.rw_cellspire_k05_poly_operators_and_parts
def ex (K : PySem.W.Frag) : Bool := baseB K && ((["DivisionByZero", "NotOneUnknown", "InvalidPoly", "InvalidUnknown"] : List Str).all (kindB K) && ((["DivisionByZero", "NotOneUnknown", "InvalidPoly"] : List Str).all (excB K) && ((["InvalidUnknown"] : List Str).all (ownB K) && (bltB K "gcd" "math.gcd" && (polyB K "Poly" "terms" && (creadB K "Poly" && ((["constant", "of_unknown", "of_row"] : List Str).all (staB K "Poly") && (He.tupB K "UNKNOWNS" [.str "x", .str "y", .str "z"] && (tupA K (He.dflAt ("Poly", some "__init__") 0 K) [] && (decide ((["DivisionByZero", "NotOneUnknown", "InvalidPoly", "InvalidUnknown"] : List Str).map (He.ga K)).Nodup && !((["DivisionByZero", "NotOneUnknown", "InvalidPoly", "InvalidUnknown"] : List Str).map (He.ga K)).contains (gE K)))))))))))
def la0 : List Addr := [190, 191, 192, 193, 194, 195, 196, 197, 198, 199, 200, 201, 202, 203, 204, 205, 206, 207, 208, 209, 210, 211, 212, 213, 214, 215, 216, 217, 218, 219, 220, 221, 222, 223, 224, 225, 226, 227, 228, 229, 230, 231, 232, 233, 234, 235, 236, 237, 238, 239, 240, 241, 242, 243, 244, 245, 246, 247, 248, 249, 250, 251, 252, 253, 254, 255, 256, 257, 258, 259, 260, 261, 262, 263, 264, 265, 266, 267, 268, 269, 270, 271, 272, 273, 274, 275, 276, 277, 278, 279, 280, 281, 282, 283, 284, 285, 286, 287, 288, 289, 290, 291, 292, 293, 294, 295, 296, 297, 298, 299, 300, 301, 302, 303, 304, 305, 306, 307, 308, 309, 310, 311, 312, 313, 314, 315, 316, 317, 318, 319, 320, 321, 322, 323, 324, 325, 326, 327, 328, 329, 330, 331, 332, 333, 334, 335, 336, 337, 338, 339]
def la1 : List Addr := [340, 341, 342, 343, 344, 345, 346, 347, 348, 349, 350, 351, 352, 353, 354, 355, 356, 357, 358, 359, 360, 361, 362, 363, 364, 365, 366, 367, 368, 369, 370, 371, 372, 373, 374, 375, 376, 377, 378, 379, 380, 381, 382, 383, 384, 385, 386, 387, 388, 389, 390, 391, 392, 393, 394, 395, 396, 397, 398, 399, 400, 401, 402, 403, 404, 405, 406, 407, 408, 409, 410, 411, 412, 413, 414, 415, 416, 417, 418, 419, 420, 421, 422, 423, 424, 425, 426, 427, 428, 429, 430, 431, 432, 433, 434, 435, 436, 437, 438, 439, 440, 441, 442, 443, 444, 445, 446, 447, 448, 449, 450, 451, 452, 453, 454, 455, 456, 457, 458, 459, 460, 461, 462, 463, 464, 465, 466, 467, 468, 469, 470, 471, 472, 473, 474, 475, 476, 477, 478, 479, 480, 481, 482, 483, 484, 485, 486, 487, 488, 489]
def la2 : List Addr := [490, 491, 492, 493, 494, 495, 496, 497, 498, 499, 500, 501, 502, 503, 504, 505, 506, 507, 508, 509, 510, 511, 512, 513, 514, 515, 516, 517, 518, 519, 520, 521, 522, 523, 524, 525, 526, 527, 528, 529, 530, 531, 532, 533, 534, 535, 536, 537, 538, 539, 540, 541, 542, 543, 544, 545, 546, 547, 548, 549, 550, 551, 552, 553, 554, 555, 556, 557, 558, 559, 560, 561, 562, 563, 564, 565, 566, 567, 568, 569, 570, 571, 572, 573, 574, 575, 576, 577, 578, 579, 580, 581, 582, 583, 584, 585, 586, 587, 588, 589, 590, 591, 592, 593, 594, 595, 596, 597, 598, 599, 600, 601, 602, 603, 604, 605, 606, 607, 608, 609, 610, 611, 612, 613, 614, 615, 616, 617, 618, 619, 620, 621, 622, 623, 624, 625, 626, 627, 628, 629, 630, 631, 632, 633, 634, 635, 636, 637, 638, 639]
def la3 : List Addr := [640, 641, 642, 643, 644, 645, 646, 647, 648, 649, 650, 651, 652, 653, 654, 655, 656, 657, 658, 659, 660, 661, 662, 663, 664, 665, 666, 667, 668, 669, 670, 671, 672, 673, 674, 675, 676, 677, 678, 679, 680, 681, 682, 683, 684, 685, 686, 687, 688, 689, 690, 691, 692, 693, 694, 695, 696, 697, 698, 699, 700, 701, 702, 703, 704, 705, 706, 707, 708, 709, 710, 711, 712, 713, 714, 715, 716, 717, 718, 719, 720, 721, 722, 723, 724, 725, 726, 727, 728, 729, 730, 731, 732, 733, 734, 735, 736, 737, 738, 739, 740, 741, 742, 743, 744, 745, 746, 747, 748, 749, 750, 751, 752, 753, 754, 755, 756, 757, 758, 759, 760, 761, 762, 763, 764, 765, 766, 767, 768, 769, 770, 771, 772, 773, 774, 775, 776, 777, 778, 779, 780, 781, 782, 783, 784, 785, 786, 787, 788, 789]
def la4 : List Addr := [790, 791, 792, 793, 794, 795, 796, 797, 798, 799, 800, 801, 802, 803, 804, 805, 806, 807, 808, 809, 810, 811, 812, 813, 814, 815, 816, 817, 818, 819, 820, 821, 822, 823, 824, 825, 826, 827, 828, 829, 830, 831, 832, 833, 834, 835, 836, 837, 838, 839, 840, 841, 842, 843, 844, 845, 846, 847, 848, 849, 850, 851, 852, 853, 854, 855, 856, 857, 858, 859, 860, 861, 862, 863, 864, 865, 866, 867, 868, 869, 870, 871, 872, 873, 874, 875, 876, 877, 878, 879, 880, 881, 882, 883, 884, 885, 886, 887, 888, 889, 890, 891, 892, 893, 894, 895, 896, 897, 898, 899, 95, 96, 97, 98, 99, 100, 101, 102, 103, 104, 105, 106, 107, 108, 109, 110, 111, 112, 113, 114, 115, 116, 117, 118, 119, 120, 121, 122, 123, 124, 125, 126, 127, 128, 129, 130, 131, 132, 133, 134]
def la5 : List Addr := [135, 136, 137, 138, 139, 140, 141, 142, 143, 144, 145, 146, 147, 148, 149, 150, 151, 152, 153, 154, 155, 156, 157, 158, 159, 160, 161, 162, 163, 164, 165, 166, 167, 168, 169, 170, 171, 172, 173, 174, 175, 176, 177, 178, 179, 180, 181, 182, 183, 184, 185, 186, 187, 188, 189, 0, 1, 2, 3, 4, 5, 6, 7, 8, 9, 10, 11, 12, 13, 14, 15, 16, 17, 18, 19, 20, 21, 22, 23, 24, 25, 26, 27, 28, 29, 30, 31, 32, 33, 34, 35, 36, 37, 38, 39, 40, 41, 42, 43, 44, 45, 46, 47, 48, 49, 50, 51, 52, 53, 54, 55, 56, 57, 58, 59, 60, 61, 62, 63, 64, 65, 66, 67, 68, 69, 70, 71, 72, 73, 74, 75, 76, 77, 78, 79, 80, 81, 82, 83, 84, 85, 86, 87, 88, 89, 90, 91, 92, 93, 94]
def la : List Addr := la0 ++ (la1 ++ (la2 ++ (la3 ++ (la4 ++ (la5)))))
def as_ : List Addr := mainGlobals :: la
def fp0 : List He5.DefA := [dTop "_changed" (topR 20), dTop "_is_term" (topR 19), dTop "_mixed" (topR 22), dTop "_in_order" (topR 25), dTop "_collected" (topR 21), dMet "Poly" "__init__" "Poly.__init__" (inClass (topR 17) 0) [.adr (He.dflAt ("Poly", some "__init__") 0)], dTopD "fraction" (topR 11) [.int 1], dTop "whole_power" (topR 9), dTop "_digits" (topR 12), dTop "_write_integer" (topR 13), dTop "write_fraction" (topR 14), dTop "gcd_of" (topR 10), dTop "_of_terms" (topR 18), dTop "_spread" (topR 24), dTop "_multiplied" (topR 23), dMet "Poly" "__add__" "Poly.__add__" (inClass (topR 17) 4) [], dMet "Poly" "__sub__" "Poly.__sub__" (inClass (topR 17) 5) [], dMet "Poly" "__mul__" "Poly.__mul__" (inClass (topR 17) 6) [], dMet "Poly" "__neg__" "Poly.__neg__" (inClass (topR 17) 7) [], dMet "Poly" "__eq__" "Poly.__eq__" (inClass (topR 17) 8) [], dMet "Poly" "degree" "Poly.degree" (inClass (topR 17) 10) [], dTop "place_of" (topR 29), dMet "Poly" "degree_in" "Poly.degree_in" (inClass (topR 17) 11) [], dMet "Poly" "unknowns" "Poly.unknowns" (inClass (topR 17) 12) [], dTop "_ladder" (topR 26), dMet "Poly" "coefficients" "Poly.coefficients" (inClass (topR 17) 13) [], dMet "Poly" "value" "Poly.value" (inClass (topR 17) 14) [], dMet "Poly" "put" "Poly.put" (inClass (topR 17) 15) [], dMet "Poly" "as_row" "Poly.as_row" (inClass (topR 17) 16) [], dMet "Poly" "slope" "Poly.slope" (inClass (topR 17) 17) [], dMet "Poly" "primitive" "Poly.primitive" (inClass (topR 17) 18) [], dTop "_term_text" (topR 27), dTop "_text" (topR 28), dMet "Poly" "__str__" "Poly.__str__" (inClass (topR 17) 9) [], dSta "Poly" "constant" "Poly.constant" (inClass (topR 17) 1), dSta "Poly" "of_unknown" "Poly.of_unknown" (inClass (topR 17) 2), dSta "Poly" "of_row" "Poly.of_row" (inClass (topR 17) 3), dTop "_law_box" (topR 31), dTop "_law_mix" (topR 32), dTop "_law_draw" (topR 33)]
def fp1 : List He5.DefA := [dTop "_law_gcd" (topR 35), dTop "_law_number" (topR 36), dTop "_law_is_int" (topR 34), dTop "_law_same" (topR 52), dTop "_law_power" (topR 48), dTop "_law_gather" (topR 37), dTop "_law_join" (topR 38), dTop "_law_multiply" (topR 39), dTop "_law_is" (topR 40), dTop "_law_moved" (topR 50), dTop "_law_terms" (topR 41), dTop "_law_second" (topR 42), dTop "_law_made" (topR 43), dTop "_law_text" (topR 44), dTop "_law_fraction" (topR 47), dTop "_law_equal" (topR 45), dTop "_law_operators" (topR 46), dTop "_law_value" (topR 49), dTop "_law_coefficients" (topR 51), dTop "_law_whole" (topR 53), dTop "_law_row_of" (topR 54), dTop "_law_parts" (topR 55), dTop "_law_simple" (topR 56), dTop "_law_refuses_name" (topR 57), dTop "_law_refuses_terms" (topR 58), dTop "_law_refusals" (topR 59), dTop "law" (topR 60), dMet "InvalidUnknown" "__init__" "InvalidUnknown.__init__" (inClass (topR 6) 0) []]
abbrev ps_ : List PtA := [(fa, []), ([], fp0), ([], fp1)]
theorem run0 (w : World) : HandSHeadRun.RunEqI R (PySem.W.view R.prog [0, 60]) (hv (He5.valA ((fa, []) : PtA).2)) (fun s => PtA.ob as_ (fa, []) (HandSHeadRun.getT s)) 20000 loose w := by
  unfold HandSHeadRun.RunEqI
  kernel_rfl
theorem run1 (w : World) : HandSHeadRun.RunEqI R (PySem.W.view R.prog [0, 60]) (hv (He5.valA (([], fp0) : PtA).2)) (fun s => PtA.ob as_ ([], fp0) (HandSHeadRun.getT s)) 20000 loose w := by
  unfold HandSHeadRun.RunEqI
  kernel_rfl
theorem run2 (w : World) : HandSHeadRun.RunEqI R (PySem.W.view R.prog [0, 60]) (hv (He5.valA (([], fp1) : PtA).2)) (fun s => PtA.ob as_ ([], fp1) (HandSHeadRun.getT s)) 20000 loose w := by
  unfold HandSHeadRun.RunEqI
  kernel_rfl
theorem runE (w : World) : HandSHeadRun.RunEqI R (PySem.W.view R.prog [0, 60]) (hv true) (fun s => ex (He.frG (HandSHeadRun.getT s) as_)) 20000 loose w := by
  unfold HandSHeadRun.RunEqI
  kernel_rfl
abbrev hk : PySem.W.Hook := hookQ as_ ps_ ex
theorem ob_eq (s : PySem.W.SharedT) : obsQ as_ ps_ ex (HandSHeadRun.getT s) = hk.obs s.abs := obsQ_eq (HandSHeadRun.getT_eq s)
theorem run (w : World) : HandSHeadRun.RunEqI R (PySem.W.view R.prog [0, 60]) hk (fun s => obsQ as_ ps_ ex (HandSHeadRun.getT s)) 20000 loose w :=
  runsQ (r := R) (q := (PySem.W.view R.prog [0, 60])) (M := 20000) (loose := loose) (w := w) (as := as_) (ps := ps_) (ex := ex) (List.forall_mem_cons.mpr ⟨run0 w,  (List.forall_mem_cons.mpr ⟨run1 w,  (List.forall_mem_cons.mpr ⟨run2 w, (fun _ m => nomatch m)⟩)⟩)⟩) (runE w)
end MyH
namespace My
open PySem PySem.Spec PyProof.Rows L2

/-! ### rules that were lacking: * and // of any size, enumerate over a tuple, a def called by its name -/
section
variable {X : Cx}
theorem op_mulG : OpR X (binaryOp .Mult) (rI IntMulOk fun i j => .int (i * j)) := opI fun _ _ _ _ _ _ _ hc q => mul_int q hc
def CDivG (_ j : Int) : Prop := j ≠ 0 ∧ j.natAbs.log2 < 9000
theorem op_fdivG : OpR X (binaryOp .FloorDiv) (rI CDivG fun i j => .int (i.fdiv j)) := opI fun i j _ _ _ _ _ hc q => floordiv_int hc.1 q (.inl (PyProof.noPylong_of_log2 hc.2))
end
theorem mul_ok_r {i j : Int} (h : j.natAbs < 2 ^ 63) : IntMulOk i j := CMul.ok (.inr ⟨by omega, by omega⟩)
theorem mul_ok_l {i j : Int} (h : i.natAbs < 2 ^ 63) : IntMulOk i j := CMul.ok (.inl ⟨by omega, by omega⟩)
theorem mul_ok {i j : Int} {a b : Nat} (ha : i.natAbs < 2 ^ a) (hb : j.natAbs < 2 ^ b) (h : a + b ≤ 134217728) : IntMulOk i j := CMulX.ok (mulx_ok ha hb h)
theorem div_ok {i j : Int} {b : Nat} (h : j ≠ 0) (hb : j.natAbs < 2 ^ b) (h9 : b ≤ 9000) : CDivG i j := by
  have h0 : 0 < b := by
    rcases Nat.eq_zero_or_pos b with z | z
    · subst z
      have : j.natAbs < 1 := hb
      omega
    · exact z
  exact ⟨h, Nat.lt_of_lt_of_le (PySem.Flt.log2_lt_of h0 hb) h9⟩

section
variable {prog : Program} {w : World} {A : Around} {E : Value → Shared → Prop} {s : Shared}
set_option maxHeartbeats 1000000 in
theorem meets_enumerate_newT (a : Addr) (items : Array Value) :
    Meets (Builtin.«enumerate.__new__» ⟨[.type "enumerate", .ref a], []⟩) (fun _ R s => s.heap.IsTuple a items ∧
      R (.ok (.ret (.ref (s.heap.push { cls := .type "tuple_iterator", data := .fields #[.ref a, .int 0 0] }).objs.size)))
        { s with heap := (s.heap.push { cls := .type "tuple_iterator", data := .fields #[.ref a, .int 0 0] }).push { cls := .type "enumerate", data := .fields #[.none, .bool false, .ref s.heap.objs.size, rawInt 0, .none, .none] } }) :=
  .of_wp fun prog w A R s h => by
    obtain ⟨hp, g, d, tk, os⟩ := s
    obtain ⟨hT, h⟩ := h
    have hsub := sub_enumerate
    have q1 : ∀ {A' : Around} {E : Value → Shared → Prop} {Q : Value → Shared → Prop}, Q (.ref hp.objs.size) ⟨hp.push { cls := .type "tuple_iterator", data := .fields #[.ref a, .int 0 0] }, g, d, tk, os⟩ → wpAny (model prog w) A' (pyIter (.ref a)) Q E ⟨hp, g, d, tk, os⟩ :=
      fun q => wpAny_pyIter_tuple (s := ⟨hp, g, d, tk, os⟩) hT q
    wp_walk using q1
    refine wpAny_stack_any fun st => wpAny_pure ?_
    split
    · rename_i c _ _ _ _ _
      cases (c == Value.type "enumerate")
      · wp_walk using q1
        exact ⟨_, rfl, h⟩
      · wp_walk using q1
        exact ⟨_, rfl, h⟩
    · wp_walk using q1
      exact ⟨_, rfl, h⟩
theorem call_enumerate_tuple {a : Addr} {items : Array Value} {Q : Value → Shared → Prop} (hL : s.heap.IsTuple a items)
    (h : ∀ h', IsEnum h' (s.heap.objs.size + 1) s.heap.objs.size 0 .none → h'.IsTupleIter s.heap.objs.size a 0 → h'.objs.size = s.heap.objs.size + 2 →
      (∀ b o, s.heap.get? b = some o → h'.get? b = some o) → Q (.ref (s.heap.objs.size + 1)) { s with heap := h' }) :
    wpAny (model prog w) A (call (.type "enumerate") [.ref a]) Q E s := by
  refine callType_new F.called_enumerate (by decide) (F.typeCall_enumerate_1 _) (F.newCall_enumerate_1 _) (fun obj => F.args_object_init_2 obj _) F.entry_enumerate_new
    (meets_enumerate_newT a items) ⟨hL, ?_⟩
  have hz : (s.heap.push { cls := .type "tuple_iterator", data := .fields #[.ref a, .int 0 0] }).objs.size = s.heap.objs.size + 1 := Heap.size_push ..
  show _ ∧ _
  rw [hz]
  have he : IsEnum ((s.heap.push { cls := .type "tuple_iterator", data := .fields #[.ref a, .int 0 0] }).push
      { cls := .type "enumerate", data := .fields #[.none, .bool false, .ref s.heap.objs.size, rawInt 0, .none, .none] }) (s.heap.objs.size + 1) s.heap.objs.size 0 .none := by
    have := Heap.get?_push_size (s.heap.push { cls := .type "tuple_iterator", data := .fields #[.ref a, .int 0 0] })
      (o := { cls := .type "enumerate", data := .fields #[.none, .bool false, .ref s.heap.objs.size, rawInt 0, .none, .none] }) rfl
    rw [hz] at this; exact this
  refine ⟨⟨_, he, rfl⟩, h _ he ⟨_, Heap.get?_push_of_some _ (Heap.get?_push_size _ rfl), rfl, rfl⟩ (by rw [Heap.size_push, hz]) fun b o x => Heap.get?_push_of_some _ (Heap.get?_push_of_some _ x)⟩
end
def IteT (K : PySem.W.Frag) (a : Addr) (n : Nat) : It :=
  ⟨fun i H => i < n ∧ ∃ (xs : List V) (x : V), SqT K H a xs ∧ xs[i]? = some x, fun i H v H' => ∃ T x, v = .ref T ∧ H T = none ∧ H' = upd H T (.tup [.int (i : Nat), x]) ∧ ∀ xs, SqT K H a xs → xs[i]? = some x, fun i H => n ≤ i ∧ ∃ xs : List V, SqT K H a xs ∧ xs.length = n⟩
theorem turn_enumT {P : Program} {w : World} {K : PySem.W.Frag} {elts : List Expr} {kk : Nat} {tpos : Pos} (a e it : Addr) (n : Nat) :
    Turn P w K (.Tuple elts kk tpos) (IteT K a n) [e, it] e (fun i h => (∃ old, IsEnum h e it ((i : Nat) : Int) old) ∧ h.IsTupleIter it a i ∧ e ≠ it ∧ i ≤ n) where
  mem := by simp
  obj := fun i h st b hb => by
    obtain ⟨⟨old, he⟩, ⟨o, ho, hc, hd⟩, _⟩ := st
    have e' : b = e ∨ b = it := by simpa using hb
    rcases e' with z | z
    · rw [z]; exact ⟨_, he, fun v q => nomatch q⟩
    · rw [z]; exact ⟨o, ho, fun v q => by rw [hd] at q; cases q⟩
  keep := fun i h h' st k => let ⟨⟨old, he⟩, hi, hne⟩ := st; ⟨⟨old, k e (by simp) _ he⟩, hi.at fun o q => k it (by simp) o q, hne⟩
  item := by
    intro X hP hw hK hc i pins s σ H E I hf st hg
    subst hP hw hK
    obtain ⟨⟨old, he⟩, hit, hne, hin⟩ := st
    obtain ⟨hlt, xs, x, hq, hx⟩ := hg
    obtain ⟨its, rv, p, hz⟩ := I.tuple hq
    obtain ⟨u, hu, ru⟩ := rv.get hx
    have hel : e < s.heap.objs.size := Heap.lt_size he
    have hil : it < s.heap.objs.size := by obtain ⟨_, q, _⟩ := hit; exact Heap.lt_size q
    have ha : ∃ o, s.heap.get? a = some o ∧ o.cls = .type "tuple" := by obtain ⟨o, h1, h2, _⟩ := p; exact ⟨o, h1, h2⟩
    obtain ⟨oa, hoa, hca⟩ := ha
    have hae : a ≠ e := fun z => by
      rw [z, he] at hoa
      have hoa := Option.some.inj hoa
      rw [← hoa] at hca
      exact absurd (show Value.type "enumerate" = Value.type "tuple" from hca) (by decide)
    have hai : a ≠ it := fun z => by
      obtain ⟨o, h1, h2, _⟩ := hit
      rw [z, h1] at hoa
      cases hoa
      rw [h2] at hca
      exact absurd hca (by decide)
    have hT0 : s.heap.IsTuple a its.toArray := p
    have D := Draws.tuple (prog := X.prog) (w := X.w) (A := X.A.in1) (show X.A.in1.handled = none from I.ok.hd hc) it a hai its.toArray
    have hilt : i < its.toArray.size := by
      have := (List.getElem?_eq_some_iff.mp hu).1
      simpa using this
    refine wpAny_pyNext_enum_itemD D he ⟨hit, hT0⟩ hilt hne (by simp [hne, Ne.symm hae]) fun x' h' tk hP' ho hst' hT hsz hk => ?_
    have eu : x' = u := by
      have q : its.toArray[i]? = some x' := hP'
      rw [List.getElem?_toArray, hu] at q
      exact (Option.some.inj q).symm
    subst eu
    obtain ⟨hit', _⟩ := hst'
    refine ⟨_, rfl, wpAny_letOwnedTupleGo_enum (s := { s with heap := h', toks := tk + 1 }) ho fun h'' he' sb => ?_⟩
    have hT2 : h''.get? s.heap.objs.size = some { cls := .type "tuple", data := .seq #[.int i tk, x'] } := (sb.2 _ (Nat.ne_of_gt hel)).trans hT
    have new : ObjOk X.prog X.w (upd H s.heap.objs.size (.tup [.int (i : Nat), x])) h'' s.heap.objs.size (.tup [.int (i : Nat), x]) :=
      ⟨by show 2 ≤ sizeLine; decide, [.int i tk, x'], .cons ⟨_, rfl⟩ (.cons ru .nil), ⟨_, hT2, rfl, _, rfl⟩⟩
    have I1 : Inv X pins σ (upd H s.heap.objs.size (.tup [.int (i : Nat), x])) { s with heap := h'', toks := tk + 1 } :=
      I.turnedNew (ch := [e, it]) (fun b ob hb q => (sb.2 b (fun z => hb (by simp [z]))).trans (hk b ob (fun z => hb (by simp [z])) (fun z => hb (by simp [z])) q)) hf (Nat.le_refl _) new
    refine ⟨.ref s.heap.objs.size, _, I1, rfl, ⟨_, x, rfl, I.hok.fresh (Nat.le_refl _), rfl, fun ys hy => by rw [I.tuple_inj hy hq]; exact hx⟩, ⟨⟨x', ?_⟩, hit'.at fun o q => (sb.2 it (Ne.symm hne)).trans q, hne, hlt⟩, fun b hb => ?_⟩
    · have e1 : ((i + 1 : Nat) : Int) = (i : Int) + 1 := by omega
      rw [e1]; exact he'
    · have hb' : b < s.heap.objs.size := by
        have e' : b = e ∨ b = it := by simpa using hb
        rcases e' with z | z
        · rw [z]; exact hel
        · rw [z]; exact hil
      rw [upd_ne (Nat.ne_of_lt hb')]
      exact (hf b hb).1
  done := by
    intro X hP hw hK hc i pins s σ H E I hf st hg
    subst hP hw hK
    obtain ⟨⟨old, he⟩, hit, hne, hin⟩ := st
    obtain ⟨hge, xs, hq, hxl⟩ := hg
    obtain ⟨its, rv, p, hz⟩ := I.tuple hq
    obtain ⟨f0, f1, f2, f3, f4, f5⟩ := hf it (by simp)
    have hl := rv.length
    have ha : ∃ o, s.heap.get? a = some o ∧ o.cls = .type "tuple" := by obtain ⟨o, h1, h2, _⟩ := p; exact ⟨o, h1, h2⟩
    obtain ⟨oa, hoa, hca⟩ := ha
    have hai : a ≠ it := fun z => by
      obtain ⟨o, h1, h2, _⟩ := hit
      rw [z, h1] at hoa
      cases hoa
      rw [h2] at hca
      exact absurd hca (by decide)
    have D := Draws.tuple (prog := X.prog) (w := X.w) (A := X.A.in1) (show X.A.in1.handled = none from I.ok.hd hc) it a hai its.toArray
    have ei : i = its.toArray.size := by
      simp only [List.size_toArray]
      omega
    refine wpAny_pyNext_enum_endD D he (show s.heap.IsTupleIter it a its.toArray.size ∧ s.heap.IsTuple a its.toArray from ⟨by rw [← ei]; exact hit, p⟩) fun h' eb => ⟨rfl, I.turned (t' := s.toks) (fun b o hb q => eb b o hb q) f0 f1 f3 f4 f5⟩
  self := fun A i s Q E st h => let ⟨⟨_, he⟩, _⟩ := st; wpAny_pyIter_enum he h
def iEnumT (K : PySem.W.Frag) (ta : TA) : TI := fun σ H R => ta σ H fun vs H1 => ∃ a xs, vs = [.ref a] ∧ SqT K H1 a xs ∧ R (IteT K a xs.length) H1
theorem pi_enumT {X : Cx} {e : Expr} {ta : TA} {p pos tpos : Pos} {elts : List Expr} {kk : Nat} (hg : Gl X "enumerate") (hm : X.mg "enumerate" = none) (ha : PA X [e] ta) (hs : starEach [e] X.env = [(false, eval e X.env)] := by rfl) :
    PI X (.Tuple elts kk tpos) (.Call (.Name "enumerate" p) [e] [] pos) (iEnumT X.K ta) := by
  refine ⟨fun pins s σ H R I h => ?_⟩
  refine Call_ (ld_blt I hg hm boot_enumerate (PyProof.Rows.callWith_type1 (thn (ha.run pos pins s σ H _ I h) fun us s1 ⟨vs, H1, I1, r1, q1⟩ => ?_) hs rfl))
  obtain ⟨a, xs, ex, hq, q⟩ := q1
  subst ex
  cases r1 with
  | cons r rr =>
    cases rr
    cases r
    obtain ⟨its, rv, p', hz⟩ := I1.tuple hq
    refine call_enumerate_tuple (show s1.heap.IsTuple a its.toArray from p') fun h' he hit hsz hk => wpAny_pyIter_enum he ?_
    have I2 : Inv X pins σ H1 { s1 with heap := h' } := I1.kept (t' := s1.toks) hk
    refine ⟨s1.heap.objs.size + 1, [s1.heap.objs.size + 1, s1.heap.objs.size], _, _, H1, rfl, I2, turn_enumT a (s1.heap.objs.size + 1) s1.heap.objs.size xs.length, ⟨⟨.none, he⟩, hit, Nat.succ_ne_self _, Nat.zero_le _⟩, fun b hb => ?_, q⟩
    have e' : b = s1.heap.objs.size + 1 ∨ b = s1.heap.objs.size := by simpa using hb
    have hle : s1.heap.objs.size ≤ b := by
      rcases e' with z | z
      · rw [z]; exact Nat.le_add_right _ _
      · rw [z]; exact Nat.le_refl _
    exact I1.fpOk hle (I1.hok.fresh hle)
theorem walk_enumT {K : PySem.W.Frag} {a : Addr} {xs : List V} : Walk (IteT K a xs.length) xs.length (fun H => SqT K H a xs) (YPair (fun i => some (.int (i : Nat))) (fun i => xs[i]?)) := by
  refine ⟨fun i _ hi q => ⟨hi, xs, xs[i], q, by simp [hi]⟩, fun _ q => ⟨Nat.le_refl _, xs, q, rfl⟩, fun i H v H' _ q y => ?_⟩
  obtain ⟨T, x, h1, h2, h3, h4⟩ := y
  exact ⟨T, .int (i : Nat), x, h1, h2, h3, rfl, h4 xs q⟩

/-! ### a def that may be called by its name; what it lets out is told by the promise -/
structure Cal (P : Program) (w : World) (K : PySem.W.Frag) (mg : Str → Option Value) (base : Heap) (k : Nat) (x : Str) (sp : Sp) : Prop where
  ex : ∃ (f : Addr) (fd : FuncData) (ps : List Str), FnOk P w K mg base (L2.CX P w) k f fd ps sp ∧ mg x = some (.ref f) ∧ PySem.W.keepIn K (.ref f) = true ∧ Binds K fd ps []
/-- a def of the module under its name -/
structure DefF (K : PySem.W.Frag) (mg : Str → Option Value) (x : Str) (st : Stmt) (ps : List Str) (f : Addr) (fd : FuncData) : Prop where
  fn : Fun K x x st f fd
  mgf : mg x = some (.ref f)
  bi : Binds K fd ps []
section
variable {P : Program} {w : World} {K : PySem.W.Frag} {mg : Str → Option Value} {base : Heap}
/-- a def that raises nothing -/
theorem cal_of {x : Str} {st : Stmt} {f : Addr} {fd : FuncData} {N ps : List Str} {k : Nat} {sp : Sp} (F : DefF K mg x st ps f fd) (S : FnScope N ps (defScope st)) (len : ∀ vs H Q E, sp vs H Q E → vs.length = ps.length)
    (hbody : ∀ (cdv : Value) (A : Around) (outer : List Env) (s : Shared) (H : Hp) (vs : List V) (Q : VK) (E : XK), Room k (A.deeper (envOfC x (defScope st) s.heap.objs.size f cdv)) → sp vs H Q E →
      ∃ t, PSs (cxOf (L2.CX P w) P w K mg base N x (defScope st) f cdv A outer s H E).nox (defBody st) t ∧ t { nx := fun _ H' => Q .non H', rt := Q } (start N vs) H) : Cal P w K mg base (k + 1) x sp :=
  ⟨f, fd, ps, F.fn.okX S len fun cdv A outer s H vs Q E hr h => let ⟨t, h1, h2⟩ := hbody cdv A outer s H vs Q E hr h; ⟨t, h1.nox, h2⟩, F.mgf, F.fn.kp, F.bi⟩
/-- a def that may raise -/
theorem cal_ofX {x : Str} {st : Stmt} {f : Addr} {fd : FuncData} {N ps : List Str} {k : Nat} {sp : Sp} (F : DefF K mg x st ps f fd) (S : FnScope N ps (defScope st)) (len : ∀ vs H Q E, sp vs H Q E → vs.length = ps.length)
    (hbody : ∀ (cdv : Value) (A : Around) (outer : List Env) (s : Shared) (H : Hp) (vs : List V) (Q : VK) (E : XK), Room k (A.deeper (envOfC x (defScope st) s.heap.objs.size f cdv)) → sp vs H Q E →
      ∃ t, PSs (cxOf (L2.CX P w) P w K mg base N x (defScope st) f cdv A outer s H E) (defBody st) t ∧ t { nx := fun _ H' => Q .non H', rt := Q } (start N vs) H) : Cal P w K mg base (k + 1) x sp :=
  ⟨f, fd, ps, F.fn.okX S len hbody, F.mgf, F.fn.kp, F.bi⟩
theorem Cal.mono {x : Str} {j k : Nat} {sp : Sp} (c : Cal P w K mg base j x sp) (h : j ≤ k) : Cal P w K mg base k x sp :=
  let ⟨f, fd, ps, F, r⟩ := c.ex; ⟨f, fd, ps, F.mono h, r⟩
theorem Cal.imp {x : Str} {k : Nat} {sp sp' : Sp} (c : Cal P w K mg base k x sp) (h : ∀ vs H Q E, sp' vs H Q E → sp vs H Q E) : Cal P w K mg base k x sp' :=
  let ⟨f, fd, ps, F, r⟩ := c.ex; ⟨f, fd, ps, F.imp h, r⟩
end
section
variable {X : Cx} {k j : Nat} {x : Str} {sp : Sp} {p pos : Pos} {e : Expr} {es : List Expr} {t : TA}
/-- f(e, ..), nothing is let out -/
theorem pe_cc (c : Cal X.prog X.w X.K X.mg X.base k x sp) (hr : Room j X.A) (hk : k ≤ j) (hg : Gl X x) (ha : PA X (e :: es) t)
    (hdb : (x == ("__debug__" : Str)) = false := by decide) (he : starEach (e :: es) X.env = (false, eval e X.env) :: starEach es X.env := by rfl) (hpl : (backTo pos (starEach es X.env)).any (·.1) = false := by rfl) :
    PE X (.Call (.Name x p) (e :: es) [] pos) (tCall sp [] E0 t) := by
  obtain ⟨f, fd, ps, F, hm, kp, b⟩ := c.ex
  exact pe_call F (hr.mono hk) hg hm kp b .nil passL ha hdb he hpl
/-- f(e, ..) within a try: what is let out is wished for at the caller's slots -/
theorem pe_ccS {W : WX} (c : Cal X.prog X.w X.K X.mg X.base k x sp) (hr : Room j X.A) (hk : k ≤ j) (hg : Gl X x) (tk : Takes X W) (ha : PA X (e :: es) t)
    (hdb : (x == ("__debug__" : Str)) = false := by decide) (he : starEach (e :: es) X.env = (false, eval e X.env) :: starEach es X.env := by rfl) (hpl : (backTo pos (starEach es X.env)).any (·.1) = false := by rfl) :
    PE X (.Call (.Name x p) (e :: es) [] pos) (tCallS sp (WE W) t) := by
  obtain ⟨f, fd, ps, F, hm, kp, b⟩ := c.ex
  exact pe_callS F (hr.mono hk) hg hm kp b (fun σ => passAt tk σ) ha hdb he hpl
end

/-! ### how the heap may change: all that is tracked stands, but for lists at L -/
def Ch (L : List Addr) (H H' : Hp) : Prop := ∀ a o, H a = some o → H' a = some o ∨ (a ∈ L ∧ ∃ xs ys, o = .lst xs ∧ H' a = some (.lst ys))
section
variable {L M : List Addr} {H H1 H2 H' : Hp} {K : PySem.W.Frag} {a b l p : Addr} {xs ys : List V} {o : HO}
theorem Ch.refl : Ch L H H := fun _ _ h => .inl h
theorem Ch.mono (c : Ch L H H') (h : ∀ a ∈ L, a ∈ M) : Ch M H H' := fun a o e => (c a o e).imp id fun ⟨m, r⟩ => ⟨h a m, r⟩
theorem Ch.of0 (c : Ch [] H H') : Ch L H H' := c.mono fun _ m => nomatch m
theorem Ch.trans (c : Ch L H H1) (d : Ch L H1 H2) : Ch L H H2 := fun a o e => by
  rcases c a o e with h | ⟨m, xs, ys, rfl, h⟩
  · exact d a o h
  · rcases d a _ h with h2 | ⟨_, _, zs, _, h2⟩
    · exact .inr ⟨m, xs, ys, rfl, h2⟩
    · exact .inr ⟨m, xs, zs, rfl, h2⟩
/-- a list that was new may change as it will -/
theorem Ch.cut (c : Ch L H H1) (hn : H l = none) (d : Ch [l] H1 H2) : Ch L H H2 := fun a o e => by
  have ne : a ≠ l := ne_of_none e hn
  rcases c a o e with h | ⟨m, xs, ys, rfl, h⟩
  · rcases d a o h with h2 | ⟨m2, _⟩
    · exact .inl h2
    · exact absurd (List.mem_singleton.mp m2) ne
  · rcases d a _ h with h2 | ⟨m2, _⟩
    · exact .inr ⟨m, xs, ys, rfl, h2⟩
    · exact absurd (List.mem_singleton.mp m2) ne
theorem Ch.trans0 (c : Ch L H H1) (d : Ch [] H1 H2) : Ch L H H2 := c.trans d.of0
theorem Ch.new (h : H p = none) : Ch [] H (upd H p o) := fun a u e => .inl (by rw [upd_ne (ne_of_none e h)]; exact e)
theorem Ch.set (h : H l = some (.lst xs)) : Ch [l] H (upd H l (.lst ys)) := fun a u e => by
  by_cases q : a = l
  · subst q
    rw [h] at e
    cases e
    exact .inr ⟨List.mem_singleton.mpr rfl, xs, ys, rfl, upd_same⟩
  · exact .inl (by rw [upd_ne q]; exact e)
theorem Ch.free (c : Ch L H H') (h : H' p = none) : H p = none := by
  cases q : H p with
  | none => rfl
  | some u =>
    rcases c p u q with e | ⟨_, _, _, _, e⟩
    · rw [h] at e
      cases e
    · rw [h] at e
      cases e
theorem Ch.tup (c : Ch L H H') (h : H a = some (.tup xs)) : H' a = some (.tup xs) := by
  rcases c a _ h with e | ⟨_, _, _, q, _⟩
  · exact e
  · cases q
theorem Ch.frz {ob : Obj} {u : HO} (c : Ch L H H') (h : H a = some (.frz ob u)) : H' a = some (.frz ob u) := by
  rcases c a _ h with e | ⟨_, _, _, q, _⟩
  · exact e
  · cases q
theorem Ch.sqT (c : Ch L H H') (h : SqT K H a xs) : SqT K H' a xs := by
  rcases h with (h | ⟨o, h⟩) | h
  · exact .inl (.inl (c.tup h))
  · exact .inl (.inr ⟨o, c.frz h⟩)
  · exact .inr h
theorem Ch.at0 (c : Ch [] H H') (h : H a = some o) : H' a = some o := (c a o h).elim id fun ⟨m, _⟩ => nomatch m
theorem Ch.at1 (c : Ch [l] H H') (ne : a ≠ l) (h : H a = some o) : H' a = some o := (c a o h).elim id fun ⟨m, _⟩ => absurd (List.mem_singleton.mp m) ne
theorem Ch.sq0 (c : Ch [] H H') (h : SqL K H a xs) : SqL K H' a xs := by
  rcases h with (h | ⟨o, h⟩) | h
  · exact .inl (.inl (c.at0 h))
  · exact .inl (.inr ⟨o, c.frz h⟩)
  · exact .inr h
theorem Ch.same (c : Ch [] H H') : Same H H' := fun a o h => c.at0 h
end

/-! ### ints as values -/
abbrev ivs (p : List Int) : List V := p.map V.int
theorem ivs_get {p : List Int} {i : Nat} {x : Int} (h : p[i]? = some x) : (ivs p)[i]? = some (.int x) := by
  rw [List.getElem?_map, h]
  rfl
theorem ivs_get_inv {p : List Int} {i : Nat} {v : V} (h : (ivs p)[i]? = some v) : ∃ x, p[i]? = some x ∧ v = .int x := by
  rw [List.getElem?_map] at h
  cases e : p[i]? with
  | none =>
    rw [e] at h
    cases h
  | some x =>
    rw [e] at h
    exact ⟨x, rfl, (Option.some.inj h).symm⟩
theorem atI_ivs {p : List Int} {i : Nat} {k : Int} (hk : k = (i : Int)) (h : i < p.length) : atI (ivs p) k = some (.int p[i]) := by
  subst hk
  exact atI_nat (ivs_get (List.getElem?_eq_getElem h))
theorem atI_int {p : List Int} {k x : Int} {i : Nat} (hk : k = (i : Int)) (h : p[i]? = some x) : atI (ivs p) k = some (.int x) := by
  subst hk
  exact atI_nat (ivs_get h)
theorem sz_le {n : Nat} (h : n ≤ 100000) : n ≤ sizeLine := Nat.le_trans h (by decide)
theorem sz_lt {n : Nat} (h : n < 100000) : n < sizeLine := Nat.lt_of_lt_of_le h (by decide)

/-! ### readings, step by step; the ends of a block stand as a constructor -/
section
variable {σ : L2.St} {H : Hp} {Q : VK} {K : PySem.W.Frag} {ta tb te : TE} {t u : TS} {D : Ends} {a : Addr} {xs : List V} {v x y : V} {i j : Int} {n : Nat} {r : R2}
  {N B C : L2.St → Hp → Prop} {R : VK}
theorem w_seq (h : t ⟨u ⟨N, R, B, C⟩, R, B, C⟩ σ H) : tSeq t u ⟨N, R, B, C⟩ σ H := h
theorem w_asg (h : te σ H fun x H1 => N (σ.set n (some x)) H1) : tAsg te (gName n) ⟨N, R, B, C⟩ σ H := h
theorem w_asgG {g : TG} (h : te σ H fun x H1 => g x σ H1 N) : tAsg te g ⟨N, R, B, C⟩ σ H := h
theorem w_ret (h : te σ H R) : tRet te ⟨N, R, B, C⟩ σ H := h
theorem w_drop (h : te σ H fun _ H1 => N σ H1) : tDrop te ⟨N, R, B, C⟩ σ H := h
theorem w_if {c : TT} (h : c σ H fun b H1 => if b = true then t ⟨N, R, B, C⟩ σ H1 else u ⟨N, R, B, C⟩ σ H1) : tIfS c t u ⟨N, R, B, C⟩ σ H := h
theorem w_next (h : N σ H) : tNext ⟨N, R, B, C⟩ σ H := h
theorem w_break (h : B σ H) : tBreak ⟨N, R, B, C⟩ σ H := h
theorem w_continue (h : C σ H) : tCont ⟨N, R, B, C⟩ σ H := h
theorem w_par {n m : Nat} {tr : TA} (h : tr σ H fun vs H1 => ∃ v w, vs = [v, w] ∧ N ((σ.set n (some v)).set m (some w)) H1) : tPar n m tr ⟨N, R, B, C⟩ σ H := h
theorem w_two {w : V} {S : V → V → Prop} (h : S v w) : ∃ v' w', [v, w] = [v', w'] ∧ S v' w' := ⟨v, w, rfl, h⟩
theorem w_cut {M : L2.St → Hp → Prop} (h : t ⟨M, R, B, C⟩ σ H) (k : ∀ σ' H', M σ' H' → u ⟨N, R, B, C⟩ σ' H') : Evl.tCut t u ⟨N, R, B, C⟩ σ H := ⟨M, h, k⟩
theorem w_var (e : σ[n]? = some (some v)) (h : Q v H) : tVar n σ H Q := ⟨v, e, h⟩
theorem w_c (h : Q v H) : tC v σ H Q := h
theorem w_op (h : ta σ H fun x H1 => tb σ H1 fun y H2 => r x y H2 Q) : tOp r ta tb σ H Q := h
theorem w_un {f : V → Hp → VK → Prop} (h : ta σ H fun x H1 => f x H1 Q) : tUn f ta σ H Q := h
theorem w_I0 {g : Int → Int → V} (h : Q (g i j) H) : rI0 g (.int i) (.int j) H Q := ⟨i, j, rfl, rfl, h⟩
theorem w_I {C : Int → Int → Prop} {g : Int → Int → V} (c : C i j) (h : Q (g i j) H) : rI C g (.int i) (.int j) H Q := ⟨i, j, rfl, rfl, c, h⟩
theorem w_mod {g : Int → Int → V} (c : 0 < j) (h : Q (g i j) H) : rI (fun _ j => 0 < j) g (.int i) (.int j) H Q := ⟨i, j, rfl, rfl, c, h⟩
theorem w_div {g : Int → Int → V} (c : 0 < j) (d : j < 1073741824) (h : Q (g i j) H) : rI CDiv g (.int i) (.int j) H Q := ⟨i, j, rfl, rfl, ⟨c, d⟩, h⟩
theorem w_pow {g : Int → Int → V} (c : 0 ≤ j) (d : j ≤ 1000000) (e : i.natAbs < 2 ^ 64) (h : Q (g i j) H) : rI CPow g (.int i) (.int j) H Q := ⟨i, j, rfl, rfl, ⟨c, d, e⟩, h⟩
theorem w_mulr {g : Int → Int → V} (c : j.natAbs < 2 ^ 63) (h : Q (g i j) H) : rI IntMulOk g (.int i) (.int j) H Q := ⟨i, j, rfl, rfl, mul_ok_r c, h⟩
theorem w_mull {g : Int → Int → V} (c : i.natAbs < 2 ^ 63) (h : Q (g i j) H) : rI IntMulOk g (.int i) (.int j) H Q := ⟨i, j, rfl, rfl, mul_ok_l c, h⟩
theorem w_U {g : Int → V} (h : Q (g i) H) : rU g (.int i) H Q := ⟨i, rfl, h⟩
theorem w_eqI (h : Q (.bl (decide (i = j))) H) : rEq (.int i) (.int j) H Q := ⟨rfl, by
  have e : decide (V.int i = V.int j) = decide (i = j) := by
    by_cases q : i = j
    · subst q
      rw [decide_eq_true rfl, decide_eq_true rfl]
    · rw [decide_eq_false q, decide_eq_false fun z => q (V.int.inj z)]
  rw [e]
  exact h⟩
theorem w_neI (h : Q (.bl (!decide (i = j))) H) : rNe (.int i) (.int j) H Q := ⟨rfl, by
  have e : decide (V.int i = V.int j) = decide (i = j) := by
    by_cases q : i = j
    · subst q
      rw [decide_eq_true rfl, decide_eq_true rfl]
    · rw [decide_eq_false q, decide_eq_false fun z => q (V.int.inj z)]
  rw [e]
  exact h⟩
theorem w_ixT (h : SqT K H a xs) (e : atI xs i = some v) (q : Q v H) : rIxT K (.ref a) (.int i) H Q := ⟨a, xs, i, v, rfl, rfl, h, e, q⟩
theorem w_ixL (h : SqL K H a xs) (e : atI xs i = some v) (q : Q v H) : rIxL K (.ref a) (.int i) H Q := ⟨a, xs, i, v, rfl, rfl, h, e, q⟩
theorem w_ixTi {p : List Int} {z : Int} {k : Nat} (h : SqT K H a (ivs p)) (hk : i = (k : Int)) (e : p[k]? = some z) (q : Q (.int z) H) : rIxT K (.ref a) (.int i) H Q := w_ixT h (atI_int hk e) q
theorem w_ixLi {p : List Int} {z : Int} {k : Nat} (h : H a = some (.lst (ivs p))) (hk : i = (k : Int)) (e : p[k]? = some z) (q : Q (.int z) H) : rIxL K (.ref a) (.int i) H Q := w_ixL (.of h) (atI_int hk e) q
theorem w_test {R : Bool → Hp → Prop} (h : te σ H fun x H' => ∃ k, x = .bl k ∧ R k H') : tTest te σ H R := h
theorem w_B {R : Bool → Hp → Prop} (h : te σ H fun x H' => ∃ k, x = .bl k ∧ R k H') : tB te σ H R := h
theorem w_bl {R : Bool → Prop} {b : Bool} (h : R b) : ∃ k, V.bl b = .bl k ∧ R k := ⟨b, rfl, h⟩
theorem w_int {R : Int → Prop} (h : R i) : ∃ k, V.int i = .int k ∧ R k := ⟨i, rfl, h⟩
theorem w_N {R : L2.St → Hp → Prop} {S : (L2.St → Hp → Prop) → Prop} (h : S R) : ∃ N : L2.St → Hp → Prop, (∀ σ' H', N σ' H' → R σ' H') ∧ S N := ⟨R, fun _ _ h => h, h⟩
theorem w_start {N : List Str} {vs : List V} (e : L2.start N vs = σ) (h : t D σ H) : t D (L2.start N vs) H := e ▸ h
theorem w_and {c d : TT} {R : Bool → Hp → Prop} (h : c σ H fun b H1 => if b = true then d σ H1 R else R false H1) : tAnd c d σ H R := h
theorem w_or {c d : TT} {R : Bool → Hp → Prop} (h : c σ H fun b H1 => if b = true then R true H1 else d σ H1 R) : tOr c d σ H R := h
theorem w_not {c : TT} {R : Bool → Hp → Prop} (h : c σ H fun b H1 => R (!b) H1) : tNot c σ H R := h
theorem w_andV (h : ta σ H fun x H1 => ∃ c, x = .bl c ∧ if c = true then tb σ H1 Q else Q (.bl false) H1) : tAndV ta tb σ H Q := h
theorem w_orV (h : ta σ H fun x H1 => ∃ c, x = .bl c ∧ if c = true then Q (.bl true) H1 else tb σ H1 Q) : tOrV ta tb σ H Q := h
theorem w_notV (h : ta σ H fun x H1 => ∃ c, x = .bl c ∧ Q (.bl (!c)) H1) : tNotV ta σ H Q := h
theorem w_ifE {c : TT} (h : c σ H fun b H1 => if b = true then ta σ H1 Q else tb σ H1 Q) : tIf c ta tb σ H Q := h
theorem w_nil {R : List V → Hp → Prop} (h : R [] H) : tNil σ H R := h
theorem w_cons {tr : TA} {R : List V → Hp → Prop} (h : ta σ H fun x H1 => tr σ H1 fun xs H2 => R (x :: xs) H2) : tCons ta tr σ H R := h
theorem w_cb {f : List V → Hp → VK → Prop} {tr : TA} (h : tr σ H fun vs H1 => f vs H1 Q) : tCB f tr σ H Q := h
theorem w_call {sp : Sp} {dvs : List V} {E : XK} {tr : TA} (h : tr σ H fun vs H1 => sp (vs ++ dvs) H1 Q E) : tCall sp dvs E tr σ H Q := h
/-- a new object, and the heap behind it as a letter -/
theorem w_new {o : HO} {R : Addr → Hp → Prop} (h : ∀ p H', H p = none → Ch [] H H' → H' p = some o → R p H') : ∀ p, H p = none → R p (upd H p o) := fun p hp => h p _ hp (Ch.new hp) upd_same
/-- the tuple, the list of these items, new -/
def NewT (xs : List V) (H : Hp) (Q : VK) : Prop := xs.length ≤ sizeLine ∧ ∀ p, H p = none → Q (.ref p) (upd H p (.tup xs))
def NewL (xs : List V) (H : Hp) (Q : VK) : Prop := xs.length ≤ sizeLine ∧ ∀ p, H p = none → Q (.ref p) (upd H p (.lst xs))
theorem w_tup {tr : TA} (h : tr σ H fun xs H1 => NewT xs H1 Q) : tTup tr σ H Q := h
theorem w_lst {tr : TA} (h : tr σ H fun xs H1 => NewL xs H1 Q) : tLst tr σ H Q := h
theorem w_newT (hl : xs.length ≤ sizeLine) (q : ∀ p H', H p = none → Ch [] H H' → H' p = some (.tup xs) → Q (.ref p) H') : NewT xs H Q := ⟨hl, w_new q⟩
theorem w_newL (hl : xs.length ≤ sizeLine) (q : ∀ p H', H p = none → Ch [] H H' → H' p = some (.lst xs) → Q (.ref p) H') : NewL xs H Q := ⟨hl, w_new q⟩
theorem ite_b {A B : Prop} {b : Bool} (h1 : b = true → A) (h2 : b = false → B) : if b = true then A else B := by
  cases b with
  | true =>
    rw [if_pos rfl]
    exact h1 rfl
  | false =>
    rw [if_neg Bool.false_ne_true]
    exact h2 rfl
theorem ite_d {A B P : Prop} [Decidable P] (h1 : P → A) (h2 : ¬ P → B) : if decide P = true then A else B := ite_b (fun e => h1 (of_decide_eq_true e)) fun e => h2 (of_decide_eq_false e)
theorem ite_nd {A B P : Prop} [Decidable P] (h1 : ¬ P → A) (h2 : P → B) : if (!decide P) = true then A else B := ite_b (fun e => h1 (by simpa using e)) fun e => h2 (by simpa using e)
theorem ite_t {A B : Prop} (h : A) : if true = true then A else B := by rw [if_pos rfl]; exact h
theorem ite_f {A B : Prop} (h : B) : if false = true then A else B := by rw [if_neg Bool.false_ne_true]; exact h
theorem ite_dt {A B P : Prop} [Decidable P] (p : P) (h : A) : if decide P = true then A else B := by rw [if_pos (decide_eq_true p)]; exact h
theorem ite_df {A B P : Prop} [Decidable P] (p : ¬ P) (h : B) : if decide P = true then A else B := by rw [if_neg (fun e => p (of_decide_eq_true e))]; exact h
end

/-! ### built-ins, by values, under names -/
def rLen (K : PySem.W.Frag) : List V → Hp → VK → Prop := fun xs H Q => ∃ p ys, xs = [.ref p] ∧ (SqL K H p ys ∨ SqT K H p ys) ∧ Q (.int ys.length) H
def rListOf (K : PySem.W.Frag) : List V → Hp → VK → Prop := fun xs H Q => ∃ p ys, xs = [.ref p] ∧ (SqL K H p ys ∨ SqT K H p ys) ∧ ∀ l, H l = none → Q (.ref l) (upd H l (.lst ys))
def rTupleOf (K : PySem.W.Frag) : List V → Hp → VK → Prop := fun xs H Q => ∃ p ys, xs = [.ref p] ∧ ((SqL K H p ys ∧ ∀ l, H l = none → Q (.ref l) (upd H l (.tup ys))) ∨ (SqT K H p ys ∧ Q (.ref p) H))
def rAbs : List V → Hp → VK → Prop := fun xs H Q => ∃ i, xs = [.int i] ∧ Q (.int (if i < 0 then -i else i)) H
def rMax2 : List V → Hp → VK → Prop := fun xs H Q => ∃ i j, xs = [.int i, .int j] ∧ Q (.int (if j > i then j else i)) H
def rMin2 : List V → Hp → VK → Prop := fun xs H Q => ∃ i j, xs = [.int i, .int j] ∧ Q (.int (if j < i then j else i)) H
def rInt1 : List V → Hp → VK → Prop := fun xs H Q => (∃ i, xs = [.int i] ∧ Q (.int i) H) ∨ ∃ k, xs = [.bl k] ∧ Q (.int (if k then 1 else 0)) H
section
variable {X : Cx}
theorem cb_len : CallR X (.builtin "len") (rLen X.K) := call_len_seq
theorem cb_list : CallR X (.type "list") (rListOf X.K) := call_list_of
theorem cb_tuple : CallR X (.type "tuple") (rTupleOf X.K) := call_tuple_of
theorem cb_abs : CallR X (.builtin "abs") rAbs := call_abs
theorem cb_max2 (hc : X.calm = true) : CallR X (.builtin "max") rMax2 := call_max2 hc
theorem cb_min2 (hc : X.calm = true) : CallR X (.builtin "min") rMin2 := call_min2 hc
theorem cb_int : CallR X (.type "int") rInt1 := call_int1
end
section
variable {X : Cx} {K : PySem.W.Frag} {tg : Expr}
theorem k_len (h : X.K = K) : CallR X (.builtin "len") (rLen K) := h ▸ cb_len
theorem k_list (h : X.K = K) : CallR X (.type "list") (rListOf K) := h ▸ cb_list
theorem k_tuple (h : X.K = K) : CallR X (.type "tuple") (rTupleOf K) := h ▸ cb_tuple
theorem k_all (h : X.K = K) (hc : X.calm = true) : CallR X (.builtin "all") (rAll K) := h ▸ cr_all hc
theorem k_any (h : X.K = K) (hc : X.calm = true) : CallR X (.builtin "any") (rAny K) := h ▸ cr_any hc
theorem k_sum (h : X.K = K) (hc : X.calm = true) : CallR X (.builtin "sum") (rSum K) := h ▸ cr_sum hc
theorem k_isi (h : X.K = K) : CallR X (.builtin "isinstance") (rIsi K) := h ▸ call_isi
theorem k_ixL (h : X.K = K) : IxR X (rIxL K) := h ▸ ix_list
theorem k_ixT (h : X.K = K) : IxR X (rIxT K) := h ▸ ix_tup
theorem k_slL (h : X.K = K) : SlR X (rSlL K) := h ▸ sl_list
theorem k_slT (h : X.K = K) : SlR X (rSlA K) := h ▸ sl_tupA
theorem k_catT (h : X.K = K) : OpR X (binaryOp .Add) (rCatA K) := h ▸ op_catA
theorem k_eqD (h : X.K = K) (hu : X.A.units + 64 < cLine) : OpR X (compareOp .Eq) (rEqD K) := h ▸ op_eqD hu
theorem k_neD (h : X.K = K) (hu : X.A.units + 64 < cLine) : OpR X (compareOp .NotEq) (rNeD K) := h ▸ op_neD hu
theorem k_inS (h : X.K = K) : OpR X (compareOp .In) (rIn K false) := h ▸ op_in_seq
theorem k_niS (h : X.K = K) : OpR X (compareOp .NotIn) (rIn K true) := h ▸ op_notIn_seq
theorem k_piL {l : Expr} {tl : TE} (h : X.K = K) (hl : PE X l tl) : PI X tg l (iList K tl) := h ▸ pi_list hl
theorem k_piT {l : Expr} {tl : TE} (h : X.K = K) (hl : PE X l tl) : PI X tg l (iTup K tl) := h ▸ pi_tup hl
theorem k_piE {e : Expr} {ta : TA} {p pos tpos : Pos} {elts : List Expr} {kk : Nat} (h : X.K = K) (hg : Gl X "enumerate") (hm : X.mg "enumerate" = none) (ha : PA X [e] ta) (hs : starEach [e] X.env = [(false, eval e X.env)] := by rfl) :
    PI X (.Tuple elts kk tpos) (.Call (.Name "enumerate" p) [e] [] pos) (iEnumT K ta) := h ▸ pi_enumT hg hm ha hs
theorem k_piV {e : Expr} {te : TE} {p pos : Pos} (h : X.K = K) (hg : Gl X "reversed") (hm : X.mg "reversed" = none) (he : PE X e te) (hs : starEach [e] X.env = (false, eval e X.env) :: starEach [] X.env := by rfl) : PI X tg (.Call (.Name "reversed" p) [e] [] pos) (RT.iRevA K te) := h ▸ RT.pi_revA hg hm he hs
theorem k_gtup {es : List Expr} {k : Nat} {t : TGs} {n : Nat} {pos : Pos} (h : X.K = K) (hc : X.calm = true) (hp : PGs X es t)
    (hn : (assignEach es X.env).length = n := by rfl) (hst : (assignEach es X.env).findIdx? (·.1) = none := by rfl) : PG X (.Tuple es k pos) (gTup K n t) := h ▸ pg_tup hc hp hn hst
end
section
variable {σ : L2.St} {H : Hp} {Q : VK} {K : PySem.W.Frag} {a p : Addr} {xs : List V} {v : V} {i j : Int} {k n : Nat} {lo hi : Option Int}
theorem w_lenL (h : SqL K H a xs) (q : Q (.int xs.length) H) : rLen K [.ref a] H Q := ⟨a, xs, rfl, .inl h, q⟩
theorem w_lenT (h : SqT K H a xs) (q : Q (.int xs.length) H) : rLen K [.ref a] H Q := ⟨a, xs, rfl, .inr h, q⟩
theorem w_lenLi {p : List Int} (h : H a = some (.lst (ivs p))) (q : Q (.int p.length) H) : rLen K [.ref a] H Q := w_lenL (.of h) (by rw [List.length_map]; exact q)
theorem w_lenTi {p : List Int} (h : SqT K H a (ivs p)) (q : Q (.int p.length) H) : rLen K [.ref a] H Q := w_lenT h (by rw [List.length_map]; exact q)
theorem w_listL (h : SqL K H a xs) (q : ∀ p H', H p = none → Ch [] H H' → H' p = some (.lst xs) → Q (.ref p) H') : rListOf K [.ref a] H Q := ⟨a, xs, rfl, .inl h, w_new q⟩
theorem w_listT (h : SqT K H a xs) (q : ∀ p H', H p = none → Ch [] H H' → H' p = some (.lst xs) → Q (.ref p) H') : rListOf K [.ref a] H Q := ⟨a, xs, rfl, .inr h, w_new q⟩
theorem w_tupleL (h : SqL K H a xs) (q : ∀ p H', H p = none → Ch [] H H' → H' p = some (.tup xs) → Q (.ref p) H') : rTupleOf K [.ref a] H Q := ⟨a, xs, rfl, .inl ⟨h, w_new q⟩⟩
theorem w_tupleT (h : SqT K H a xs) (q : Q (.ref a) H) : rTupleOf K [.ref a] H Q := ⟨a, xs, rfl, .inr ⟨h, q⟩⟩
theorem w_abs (q : Q (.int i.natAbs) H) : rAbs [.int i] H Q := ⟨i, rfl, by
  have e : (if i < 0 then -i else i) = (i.natAbs : Int) := by split <;> omega
  rw [e]
  exact q⟩
theorem w_max2 (q : Q (.int (if j > i then j else i)) H) : rMax2 [.int i, .int j] H Q := ⟨i, j, rfl, q⟩
theorem w_min2 (q : Q (.int (if j < i then j else i)) H) : rMin2 [.int i, .int j] H Q := ⟨i, j, rfl, q⟩
theorem w_int1 (q : Q (.int i) H) : rInt1 [.int i] H Q := .inl ⟨i, rfl, q⟩
theorem w_int1b {b : Bool} (q : Q (.int (if b then 1 else 0)) H) : rInt1 [.bl b] H Q := .inr ⟨b, rfl, q⟩
theorem w_gcd (q : Q (.int (Nat.gcd i.natAbs j.natAbs : Nat)) H) : rGcd [.int i, .int j] H Q := ⟨i, j, rfl, q⟩
/-! slices -/
theorem w_sl {r : V → Option Int → Option Int → Hp → VK → Prop} {te : TE} {tl th : TO} (h : te σ H fun x H1 => tl σ H1 fun l H2 => th σ H2 fun u H3 => r x l u H3 Q) : tSl r te tl th σ H Q := h
theorem w_nopart {R : Option Int → Hp → Prop} (h : R none H) : tNoPart σ H R := h
theorem w_part {t : TE} {R : Option Int → Hp → Prop} (h : t σ H fun x H1 => ∃ i, x = .int i ∧ R (some i) H1) : tPart t σ H R := h
theorem w_slL (h : SqL K H a xs) (q : ∀ p H', H p = none → Ch [] H H' → H' p = some (.lst (cutV xs lo hi)) → Q (.ref p) H') : rSlL K (.ref a) lo hi H Q := ⟨a, xs, rfl, h, w_new q⟩
theorem cutV_whole {xs : List V} {lo hi : Option Int} (h : HT.sIx xs.length 0 lo = 0 ∧ HT.sIx xs.length xs.length hi = xs.length) : cutV xs lo hi = xs := by
  unfold cutV
  rw [h.1, h.2, List.drop_zero, Nat.sub_zero, List.take_length]
theorem w_slT (h : SqT K H a xs) (q : ∀ p H', Ch [] H H' → SqT K H' p (cutV xs lo hi) → Q (.ref p) H') : rSlA K (.ref a) lo hi H Q :=
  ⟨a, xs, rfl, h, fun hw => q a H .refl (by rw [cutV_whole hw]; exact h), fun _ p hp => q p _ (Ch.new hp) (.of upd_same)⟩
/-! targets -/
variable {N : L2.St → Hp → Prop}
theorem w_gname (h : N (σ.set n (some v)) H) : gName n v σ H N := h
theorem w_gsub {to ti : TE} {t : TSet} (h : to σ H fun o H1 => ti σ H1 fun i H2 => t o i v H2 fun H3 => N σ H3) : gSub to ti t v σ H N := h
theorem w_setL {R : Hp → Prop} (h : H a = some (.lst xs)) (hk : i = (k : Int)) (hj : k < xs.length) (q : ∀ H', Ch [a] H H' → H' a = some (.lst (xs.set k v)) → R H') : rSetL (.ref a) (.int i) v H R := by
  subst hk
  refine ⟨a, xs, k, k, rfl, rfl, h, ?_, q _ (Ch.set h) upd_same⟩
  unfold ixN
  rw [if_pos (by omega), if_pos (by omega)]
  rfl
theorem w_gtup {t : TGs} (h : SqT K H a xs) (hl : xs.length = n) (q : t xs σ H N) : gTup K n t (.ref a) σ H N := ⟨a, xs, rfl, h, hl, q⟩
theorem w_gcons {g : TG} {t : TGs} (h : g v σ H fun σ' H' => t xs σ' H' N) : gCons g t (v :: xs) σ H N := ⟨v, xs, rfl, h⟩
theorem w_gnil (h : N σ H) : gNil [] σ H N := ⟨rfl, h⟩
/-! list.append -/
theorem w_bm {T : String} {r : V → List V → Hp → VK → Prop} {to : TE} {t : TA} (h : to σ H fun x H1 => tyV K T x H1 ∧ t σ H1 fun xs H2 => r x xs H2 Q) : tBM K T r to t σ H Q := h
theorem w_append (h : H a = some (.lst xs)) (hl : xs.length < sizeLine) (q : ∀ H', Ch [a] H H' → H' a = some (.lst (xs ++ [v])) → Q .non H') : rAppend (.ref a) [v] H Q := ⟨a, xs, v, rfl, rfl, h, hl, q _ (Ch.set h) upd_same⟩
theorem w_cat {b : Addr} {ys : List V} (h : H a = some (.lst xs)) (h2 : H b = some (.lst ys)) (hl : xs.length + ys.length ≤ sizeLine) (q : ∀ p H', H p = none → Ch [] H H' → H' p = some (.lst (xs ++ ys)) → Q (.ref p) H') : rCat (.ref a) (.ref b) H Q :=
  ⟨a, b, xs, ys, rfl, rfl, h, h2, hl, w_new q⟩
end

/-! ### loops and comprehensions -/
def ForG (J : It) (g : TG) (tb : TS) (N : L2.St → Hp → Prop) (R : VK) (σ : L2.St) (H : Hp) : Prop := ∃ W : Nat → Nat → L2.St → Hp → Prop, (∃ m, W 0 m σ H) ∧ ∀ i m σ H, W i m σ H →
  (J.stop i H ∧ N σ H) ∨ (J.go i H ∧ ∃ M : L2.St → Hp → Prop, (∀ σ' H', M σ' H' → ∃ m', m' < m ∧ W (i + 1) m' σ' H') ∧ ∀ x H', J.yld i H x H' → g x σ H' fun σ2 H2 => tb ⟨M, R, N, M⟩ σ2 H2)
def LcG (J : It) (g : TG) (tt : TT) (te : TE) (vs : List Nat) (σ : L2.St) (H1 : Hp) (Q : VK) : Prop := ∀ D, H1 D = none → ∃ W : Nat → Nat → Hp → Prop, (∃ m, W 0 m (upd H1 D (.lst []))) ∧ ∀ i m H, W i m H →
  (J.stop i H ∧ Q (.ref D) H) ∨ (J.go i H ∧ ∃ Nx : Hp → Prop, (∀ H', Nx H' → ∃ m', m' < m ∧ W (i + 1) m' H') ∧ ∀ x H', J.yld i H x H' → g x (wipe σ vs) H' fun σ2 H2 => wipe σ2 vs = wipe σ vs ∧ tt σ2 H2 fun b H3 =>
    if b = true then te σ2 H3 fun y H4 => ∃ acc, H4 D = some (.lst acc) ∧ acc.length < sizeLine ∧ Nx (upd H4 D (.lst (acc ++ [y]))) else Nx H3)
section
variable {σ : L2.St} {H : Hp} {Q : VK} {K : PySem.W.Frag} {a p : Addr} {xs : List V} {v : V} {i j lo : Int} {n : Nat} {N B C : L2.St → Hp → Prop} {R : VK} {g : TG} {tb : TS} {wi : TI} {tt : TT} {te : TE} {vs : List Nat} {J : It}
theorem w_for (h : wi σ H fun J H1 => ForG J g tb N R σ H1) : tFor wi g tb ⟨N, R, B, C⟩ σ H := h
theorem w_lc (h : wi σ H fun J H1 => LcG J g tt te vs σ H1 Q) : tLc wi g tt te vs σ H Q := h
theorem w_while {c : TT} (W : Nat → L2.St → Hp → Prop) (m : Nat) (w0 : W m σ H) (turn : ∀ m σ H, W m σ H → c σ H fun b' H1 => if b' = true then ∃ M : L2.St → Hp → Prop, (∀ σ' H', M σ' H' → ∃ m', m' < m ∧ W m' σ' H') ∧ tb ⟨M, R, N, M⟩ σ H1 else N σ H1) : tWhile c tb ⟨N, R, B, C⟩ σ H :=
  ⟨W, ⟨m, w0⟩, turn⟩
theorem w_iL {tl : TE} {S : It → Hp → Prop} (h : tl σ H fun x H1 => ∃ a, x = .ref a ∧ (∃ xs, SqL K H1 a xs) ∧ S (Itl K a) H1) : iList K tl σ H S := h
theorem w_iT {tl : TE} {S : It → Hp → Prop} (h : tl σ H fun x H1 => ∃ a, x = .ref a ∧ (∃ xs, SqT K H1 a xs) ∧ S (Itt K a) H1) : iTup K tl σ H S := h
theorem w_iLr {S : Addr → Prop} (h : SqL K H a xs) (q : S a) : ∃ a', V.ref a = .ref a' ∧ (∃ xs, SqL K H a' xs) ∧ S a' := ⟨a, rfl, ⟨xs, h⟩, q⟩
theorem w_iTr {S : Addr → Prop} (h : SqT K H a xs) (q : S a) : ∃ a', V.ref a = .ref a' ∧ (∃ xs, SqT K H a' xs) ∧ S a' := ⟨a, rfl, ⟨xs, h⟩, q⟩
theorem w_iR1 {tr : TA} {S : It → Hp → Prop} (h : tr σ H fun vs H1 => ∃ j : Int, vs = [.int j] ∧ -(2 ^ 62) ≤ j ∧ j < 2 ^ 62 ∧ S (Itr 0 j.toNat) H1) : iRng1 tr σ H S := h
theorem w_iR1r {S : Int → Prop} (h1 : -(2 ^ 62) ≤ j) (h2 : j < 2 ^ 62) (q : S j) : ∃ j' : Int, [V.int j] = [.int j'] ∧ -(2 ^ 62) ≤ j' ∧ j' < 2 ^ 62 ∧ S j' := ⟨j, rfl, h1, h2, q⟩
theorem w_iR2 {tr : TA} {S : It → Hp → Prop} (h : tr σ H fun vs H1 => ∃ i j : Int, vs = [.int i, .int j] ∧ (-(2 ^ 62) ≤ i ∧ i < 2 ^ 62 ∧ -(2 ^ 62) ≤ j ∧ j < 2 ^ 62) ∧ S (Itr i (j - i).toNat) H1) : iRng2 tr σ H S := h
theorem w_iR2r {S : Int → Int → Prop} (h : -(2 ^ 62) ≤ i ∧ i < 2 ^ 62 ∧ -(2 ^ 62) ≤ j ∧ j < 2 ^ 62) (q : S i j) : ∃ i' j' : Int, [V.int i, V.int j] = [.int i', .int j'] ∧ (-(2 ^ 62) ≤ i' ∧ i' < 2 ^ 62 ∧ -(2 ^ 62) ≤ j' ∧ j' < 2 ^ 62) ∧ S i' j' := ⟨i, j, rfl, h, q⟩
theorem w_iE {tr : TA} {S : It → Hp → Prop} (h : tr σ H fun vs H1 => ∃ a xs, vs = [.ref a] ∧ SqT K H1 a xs ∧ S (IteT K a xs.length) H1) : iEnumT K tr σ H S := h
theorem w_iEr {S : Addr → List V → Prop} (h : SqT K H a xs) (q : S a xs) : ∃ a' xs', [V.ref a] = [.ref a'] ∧ SqT K H a' xs' ∧ S a' xs' := ⟨a, xs, rfl, h, q⟩
theorem w_iV {S : It → Hp → Prop} {tl : TE} (h : tl σ H fun v H1 => ∃ (a : Addr) (xs : List V), v = .ref a ∧ ((SqL K H1 a xs ∧ S (Itv K a xs.length) H1) ∨ (SqT K H1 a xs ∧ S (RT.ItvT K a xs.length) H1))) : RT.iRevA K tl σ H S := h
theorem w_iVr {S1 S2 : Addr → List V → Prop} (h : SqT K H a xs) (q : S2 a xs) : ∃ (a' : Addr) (xs' : List V), V.ref a = .ref a' ∧ ((SqL K H a' xs' ∧ S1 a' xs') ∨ (SqT K H a' xs' ∧ S2 a' xs')) := ⟨a, xs, rfl, .inr ⟨h, q⟩⟩
/-- a for, by what it walks -/
theorem for_w {G : Hp → Prop} {Y : Nat → Hp → V → Hp → Prop} (w : Walk J n G Y) (Pv : Nat → L2.St → Hp → Prop) (h0 : Pv 0 σ H) (hG : ∀ i σ H, i ≤ n → Pv i σ H → G H)
    (hs : ∀ i x σ H H', i < n → Pv i σ H → Y i H x H' → g x σ H' fun σ2 H2 => tb ⟨Pv (i + 1), R, N, Pv (i + 1)⟩ σ2 H2) (hd : ∀ σ H, Pv n σ H → N σ H) : ForG J g tb N R σ H :=
  for_it (D := ⟨N, R, fun _ _ => False, fun _ _ => False⟩) w Pv h0 hG hs hd
theorem for_R (Pv : Nat → L2.St → Hp → Prop) (h0 : Pv 0 σ H) (hs : ∀ i σ H, i < n → Pv i σ H → g (.int (lo + (i : Int))) σ H fun σ2 H2 => tb ⟨Pv (i + 1), R, N, Pv (i + 1)⟩ σ2 H2) (hd : ∀ σ H, Pv n σ H → N σ H) : ForG (Itr lo n) g tb N R σ H :=
  for_range (D := ⟨N, R, fun _ _ => False, fun _ _ => False⟩) Pv h0 hs hd
theorem for_T {xs : List V} (Pv : Nat → L2.St → Hp → Prop) (h0 : Pv 0 σ H) (hl : ∀ i σ H, i ≤ xs.length → Pv i σ H → SqT K H a xs)
    (hs : ∀ i x σ H, xs[i]? = some x → Pv i σ H → g x σ H fun σ2 H2 => tb ⟨Pv (i + 1), R, N, Pv (i + 1)⟩ σ2 H2) (hd : ∀ σ H, Pv xs.length σ H → N σ H) : ForG (Itt K a) g tb N R σ H :=
  for_tup (D := ⟨N, R, fun _ _ => False, fun _ _ => False⟩) Pv h0 hl hs hd
/-- over a tuple of ints -/
theorem for_Ti {ns : List Int} (Pv : Nat → L2.St → Hp → Prop) (h0 : Pv 0 σ H) (hl : ∀ i σ H, i ≤ ns.length → Pv i σ H → SqT K H a (ivs ns))
    (hs : ∀ i x σ H, ns[i]? = some x → Pv i σ H → g (.int x) σ H fun σ2 H2 => tb ⟨Pv (i + 1), R, N, Pv (i + 1)⟩ σ2 H2) (hd : ∀ σ H, Pv ns.length σ H → N σ H) : ForG (Itt K a) g tb N R σ H :=
  for_T (xs := ivs ns) Pv h0 (fun i σ H hi => hl i σ H (by rw [List.length_map] at hi; exact hi)) (fun i x σ H hx hp => by
    obtain ⟨z, hz, rfl⟩ := ivs_get_inv hx
    exact hs i z σ H hz hp) (fun σ H hp => hd σ H (by rw [List.length_map] at hp; exact hp))
/-- for i, x in enumerate(tuple of ints): each turn lays a new pair -/
theorem for_Ei {ns : List Int} (Pv : Nat → L2.St → Hp → Prop) (h0 : Pv 0 σ H) (hl : ∀ i σ H, i ≤ ns.length → Pv i σ H → SqT K H a (ivs ns))
    (hs : ∀ i x σ H T H', ns[i]? = some x → Pv i σ H → H T = none → Ch [] H H' → H' T = some (.tup [.int (i : Nat), .int x]) → g (.ref T) σ H' fun σ2 H2 => tb ⟨Pv (i + 1), R, N, Pv (i + 1)⟩ σ2 H2) (hd : ∀ σ H, Pv ns.length σ H → N σ H) : ForG (IteT K a (ivs ns).length) g tb N R σ H :=
  for_it (D := ⟨N, R, fun _ _ => False, fun _ _ => False⟩) (walk_enumT (xs := ivs ns)) Pv h0 (fun i σ H hi => hl i σ H (by rw [List.length_map] at hi; exact hi)) (fun i x σ H H' hi hp hy => by
    obtain ⟨T, x1, x2, rfl, nT, rfl, e1, e2⟩ := hy
    obtain ⟨z, hz, rfl⟩ := ivs_get_inv e2
    cases e1
    exact hs i z σ H T _ hz hp nT (Ch.new nT) upd_same) (fun σ H hp => hd σ H (by rw [List.length_map] at hp; exact hp))
/-- for x in reversed(tuple of ints) -/
theorem for_Vi {ns : List Int} (Pv : Nat → L2.St → Hp → Prop) (h0 : Pv 0 σ H) (hl : ∀ i σ H, Pv i σ H → SqT K H a (ivs ns))
    (hs : ∀ i x σ H, i < ns.length → ns[ns.length - 1 - i]? = some x → Pv i σ H → g (.int x) σ H fun σ2 H2 => tb ⟨Pv (i + 1), R, N, Pv (i + 1)⟩ σ2 H2) (hd : ∀ σ H, Pv ns.length σ H → N σ H) : ForG (RT.ItvT K a (ivs ns).length) g tb N R σ H :=
  RT.for_ItvT (D := ⟨N, R, fun _ _ => False, fun _ _ => False⟩) (xs := ivs ns) Pv h0 hl (fun i x σ H hi hx hp => by
    rw [List.length_map] at hi hx
    obtain ⟨z, hz, rfl⟩ := ivs_get_inv hx
    exact hs i z σ H hi hz hp) (fun σ H hp => hd σ H (by rw [List.length_map] at hp; exact hp))

theorem wipe1 {σ : L2.St} {i : Nat} {o : Option V} : wipe ((wipe σ [i]).set i o) [i] = wipe σ [i] := by
  show ((σ.set i none).set i o).set i none = σ.set i none
  rw [List.set_set, List.set_set]
/-- [e for x in ..], no test: what each turn gives -/
theorem lc_w {G : Hp → Prop} {Y : Nat → Hp → V → Hp → Prop} {i : Nat} (w : Walk J n G Y) (f : Nat → V) (hv : vs = [i]) (hG : ∀ H', Ch [] H H' → G H') (hn : n < 100000)
    (hs : ∀ k x H1 H2, k < n → Ch [] H H1 → Y k H1 x H2 → ∀ S : VK, (∀ H3, Ch [] H1 H3 → S (f k) H3) → te ((wipe σ [i]).set i (some x)) H2 S)
    (hd : ∀ D H', H D = none → Ch [] H H' → H' D = some (.lst ((List.range n).map f)) → Q (.ref D) H') : LcG J (gName i) tYes te vs σ H Q := by
  subst hv
  intro D hD
  refine lc_it w (fun k H' => Ch [] H H' ∧ H' D = some (.lst ((List.range k).map f))) ⟨Ch.new hD, by rw [upd_same]; rfl⟩ (fun k H' hk hp => hG H' hp.1) ?_ (fun H' hp => hd D H' hD hp.1 hp.2)
  rintro k x H1 H2 hk ⟨c1, e1⟩ hy
  refine ⟨wipe1, ?_⟩
  show te _ _ _
  refine hs k x H1 H2 hk c1 hy _ fun H3 c3 => ?_
  refine ⟨_, c3.at0 e1, sz_lt (by rw [List.length_map, List.length_range]; omega), ?_, ?_⟩
  · exact Ch.cut (c1.trans c3) hD (Ch.set (c3.at0 e1))
  · rw [upd_same, List.range_succ, List.map_append]
    rfl
theorem lc_R {i : Nat} (f : Nat → V) (hv : vs = [i]) (hn : n < 100000)
    (hs : ∀ k H1, k < n → Ch [] H H1 → ∀ S : VK, (∀ H3, Ch [] H1 H3 → S (f k) H3) → te ((wipe σ [i]).set i (some (.int (lo + (k : Int))))) H1 S)
    (hd : ∀ D H', H D = none → Ch [] H H' → H' D = some (.lst ((List.range n).map f)) → Q (.ref D) H') : LcG (Itr lo n) (gName i) tYes te vs σ H Q :=
  lc_w (walk_range (lo := lo) (n := n)) f hv (fun _ _ => trivial) hn (fun k x H1 H2 hk c y S q => by
    obtain ⟨e1, e2⟩ := y
    rw [e1, e2]
    exact hs k H1 hk c S q) hd
theorem range_map {ns : List Int} {g : Int → V} : (List.range ns.length).map (fun k => g (ns.getD k 0)) = ns.map g := by
  apply List.ext_getElem?
  intro k
  rw [List.getElem?_map, List.getElem?_map]
  by_cases h : k < ns.length
  · rw [List.getElem?_range h, List.getElem?_eq_getElem h]
    simp [List.getD, h]
  · rw [List.getElem?_eq_none (by rw [List.length_range]; omega), List.getElem?_eq_none (by omega)]
    rfl
/-- [e for x in a tuple of ints] -/
theorem lc_Ti {i : Nat} {ns : List Int} (f : Int → V) (hv : vs = [i]) (ht : SqT K H a (ivs ns)) (hn : ns.length < 100000)
    (hs : ∀ x H1, x ∈ ns → Ch [] H H1 → ∀ S : VK, (∀ H3, Ch [] H1 H3 → S (f x) H3) → te ((wipe σ [i]).set i (some (.int x))) H1 S)
    (hd : ∀ D H', H D = none → Ch [] H H' → H' D = some (.lst (ns.map f)) → Q (.ref D) H') : LcG (Itt K a) (gName i) tYes te vs σ H Q := by
  have w : Walk (Itt K a) ns.length (fun H => SqT K H a (ivs ns)) (YAt (ivs ns)) := by
    have q := walk_tup (K := K) (a := a) (xs := ivs ns)
    rw [List.length_map] at q
    exact q
  refine lc_w w (fun k => f (ns.getD k 0)) hv (fun _ c => c.sqT ht) hn (fun k x H1 H2 hk c y S q => ?_) (fun D H' h1 h2 h3 => hd D H' h1 h2 (by rw [h3, range_map]))
  obtain ⟨rfl, hx⟩ := y
  obtain ⟨z, hz, rfl⟩ := ivs_get_inv hx
  refine hs z _ (List.mem_of_getElem? hz) c S fun H3 c3 => ?_
  have e : ns.getD k 0 = z := by
    simp [List.getD, hz]
  have := q H3 c3
  simp only [e] at this
  exact this
end

section
variable {σ : L2.St} {H : Hp} {i j lo c : Int} {n : Nat} {N : L2.St → Hp → Prop} {R : VK} {g : TG} {tb : TS}
theorem w_iR3 {tr : TA} {S : It → Hp → Prop} (h : tr σ H fun vs H1 => ∃ (i j c : Int) (n : Nat), vs = [.int i, .int j, .int c] ∧ RgC i j c n ∧ S (Itc i c n) H1) : iRng3 tr σ H S := h
theorem w_iR3r {S : Int → Int → Nat → Prop} (h : RgC i j c n) (q : S i c n) : ∃ (i' j' c' : Int) (n' : Nat), [V.int i, V.int j, V.int c] = [.int i', .int j', .int c'] ∧ RgC i' j' c' n' ∧ S i' c' n' := ⟨i, j, c, n, rfl, h, q⟩
theorem for_C (Pv : Nat → L2.St → Hp → Prop) (h0 : Pv 0 σ H) (hs : ∀ i σ H, i < n → Pv i σ H → g (.int (lo + (i : Nat) * c)) σ H fun σ2 H2 => tb ⟨Pv (i + 1), R, N, Pv (i + 1)⟩ σ2 H2) (hd : ∀ σ H, Pv n σ H → N σ H) : ForG (Itc lo c n) g tb N R σ H :=
  for_rangeC (D := ⟨N, R, fun _ _ => False, fun _ _ => False⟩) Pv h0 hs hd
end
section
variable {X : Cx} {C : Addr} {bmB : List Value} {B newId initId : String}
/-- X(), an own exception class without own __init__ -/
theorem pmk_own0 {x : Str} {p pos : Pos} (F : ExcBaseFacts B newId initId bmB) (q : PySem.W.excIn X.K C bmB newId = true) (gC : X.mg x = some (.ref C)) (kC : PySem.W.keepIn X.K (.ref C) = true) (r : Raises X (.ref C)) (hg : Gl X x)
    (hdb : (x == ("__debug__" : Str)) = false := by decide) : PMk X (.Call (.Name x p) [] [] pos) (fun _ H Q => Q (.ref C) none H) := by
  intro pins s σ H Q I h
  refine wpAny_Call_Name_kw (ld_glob I hg gC ?_ hdb)
  refine PySem.W.callWith_K0 I.kIn kC ?_
  show wpAny _ _ (call (.ref C) []) _ _ _
  obtain ⟨bm, N, nm, qn, bs, hdct, sn, sub, ab, col, dd, k0, k1, k2, k3, k5, mN, hC, hN, hni, T⟩ := exc_obj I.kIn q
  refine wpAny_call_exc_subT F T hC hN hni (fun h' e hm => ?_) (Nat.zero_le _)
  exact mk_of I hm r h (I.hok.gone hm.new)
end
/-- a def with one default, called with all its arguments -/
structure DefD (K : PySem.W.Frag) (mg : Str → Option Value) (x : Str) (st : Stmt) (ps : List Str) (f : Addr) (fd : FuncData) : Prop where
  fn : ∃ dvs kws, FunD K x x (defArgs st) (defBody st) (defScope st) dvs kws f fd
  mgf : mg x = some (.ref f)
  bi : Binds K fd ps []
section
variable {P : Program} {w : World} {K : PySem.W.Frag} {mg : Str → Option Value} {base : Heap}
theorem cal_ofD {x : Str} {st : Stmt} {f : Addr} {fd : FuncData} {N ps : List Str} {k : Nat} {sp : Sp} (F : DefD K mg x st ps f fd) (S : FnScope N ps (defScope st)) (len : ∀ vs H Q E, sp vs H Q E → vs.length = ps.length)
    (hbody : ∀ (cdv : Value) (A : Around) (outer : List Env) (s : Shared) (H : Hp) (vs : List V) (Q : VK) (E : XK), Room k (A.deeper (envOfC x (defScope st) s.heap.objs.size f cdv)) → sp vs H Q E →
      ∃ t, PSs (cxOf (L2.CX P w) P w K mg base N x (defScope st) f cdv A outer s H E).nox (defBody st) t ∧ t { nx := fun _ H' => Q .non H', rt := Q } (start N vs) H) : Cal P w K mg base (k + 1) x sp := by
  obtain ⟨dvs, kws, F0⟩ := F.fn
  exact ⟨f, fd, ps, F0.ok S len fun cdv A outer s H vs Q E hr h => let ⟨t, h1, h2⟩ := hbody cdv A outer s H vs Q E hr h; ⟨t, h1.nox, h2⟩, F.mgf, F0.kp, F.bi⟩
end

/-- an own exception class over ValueError, without own __init__ -/
structure ExcF (K : PySem.W.Frag) (mg : Str → Option Value) (x : Str) (C : Addr) : Prop where
  xin : PySem.W.excIn K C [.type "ValueError", .type "Exception", .type "BaseException", .type "object"] "ValueError.__new__" = true
  gl : mg x = some (.ref C)
  kp : PySem.W.keepIn K (.ref C) = true
  sub : PySem.W.subIn K (.ref C) (.type "BaseException") = some true
  ty : PySem.W.typeIn K (.ref C) = some (.type "type")

/-! ### truth of a list -/
def tTru (K : PySem.W.Frag) (ta : TE) : TT := fun σ H Q => ta σ H fun x H' => ∃ k, TruV K x H' k ∧ Q k H'
section
variable {X : Cx} {K : PySem.W.Frag}
theorem k_tru {a : Expr} {ta : TE} (h : X.K = K) (ha : PE X a ta) (he : ∀ whole, isTrue a X.env whole = (do let v ← whole; standAt a.pos; holding [v] (truthy v)) := by intro _; rfl) : PT X a (tTru K ta) := h ▸ pt_truth ha he
variable {σ : L2.St} {H : Hp} {ta : TE} {a : Addr} {xs : List V}
theorem w_tru {R : Bool → Hp → Prop} (h : ta σ H fun x H' => ∃ k, TruV K x H' k ∧ R k H') : tTru K ta σ H R := h
theorem w_truL {R : Bool → Prop} (h : SqL K H a xs) (q : R (!xs.isEmpty)) : ∃ k, TruV K (.ref a) H k ∧ R k := ⟨_, .inl ⟨xs, h, rfl⟩, q⟩
theorem w_truT {R : Bool → Prop} (h : SqT K H a xs) (q : R (!xs.isEmpty)) : ∃ k, TruV K (.ref a) H k ∧ R k := ⟨_, .inr (.inl ⟨xs, h, rfl⟩), q⟩
end

theorem w_bits {σ : L2.St} {H : Hp} {to : TE} {Q : VK} (h : to σ H fun x H1 => ∃ i, x = .int i ∧ Q (.int (Builtin.Int.intBits i : Nat)) H1) : tBits to σ H Q := h
end My
/-! what the end needs of the written part: defs, defaults, classes -/
namespace My
open PySem PySem.Spec PyProof.Rows L2
section
variable {K : PySem.W.Frag} {h : Heap} {mg : Str → Option Value}
theorem def_mk {x : Str} {st : Stmt} {ps : List Str} {f : Addr} {oc : Value} {od an : Option Addr} {osl : Array (Option Value)} {kV doc pm cdv ct : Value} (X : K.In h) (G : h.Ns mainGlobals mg)
    (a : PySem.W.nsIn K mainGlobals x = some (some (.ref f))) (l : K.lookup f = some ⟨oc, od, .func (PySem.W.fnOf x x (defArgs st) (defBody st) (defScope st) .none kV doc pm an cdv ct), osl⟩)
    (c : PySem.W.codeIn K cdv x = true) (k : PySem.W.keepIn K (.ref f) = true)
    (b : ∀ (kV doc pm : Value) (an : Option Addr) (cdv ct : Value) (us : List Value), us.length = ps.length → bindArgs (PySem.W.fnOf x x (defArgs st) (defBody st) (defScope st) .none kV doc pm an cdv ct) ⟨us, []⟩ = pure (ps.zip us)) :
    DefF K mg x st ps f (PySem.W.fnOf x x (defArgs st) (defBody st) (defScope st) .none kV doc pm an cdv ct) :=
  ⟨fun_mk l c k, PySem.W.mg_of X G a, (fun_mk (st := st) l c k).binds b⟩
theorem defd_mk {x : Str} {st : Stmt} {ps : List Str} {dvs : List V} {f T : Addr} {oc : Value} {od an td : Option Addr} {osl tsl : Array (Option Value)} {kV doc pm cdv ct tc : Value} {its : List Value} {n : Nat} (X : K.In h) (G : h.Ns mainGlobals mg)
    (a : PySem.W.nsIn K mainGlobals x = some (some (.ref f))) (l : K.lookup f = some ⟨oc, od, .func (PySem.W.fnOf x x (defArgs st) (defBody st) (defScope st) (.ref T) kV doc pm an cdv ct), osl⟩)
    (c : PySem.W.codeIn K cdv x = true) (k : PySem.W.keepIn K (.ref f) = true) (t : K.lookup T = some ⟨tc, td, .seq its.toArray n, tsl⟩) (d : Vals dvs its) (d0 : dvs ≠ [])
    (b : ∀ (T : Addr) (kV doc pm : Value) (an : Option Addr) (cdv ct : Value) (us its : List Value), us.length = ps.length → its.length = dvs.length →
      ∃ k, bindArgs (PySem.W.fnOf x x (defArgs st) (defBody st) (defScope st) (.ref T) kV doc pm an cdv ct) ⟨us, []⟩ = seqItems? (.ref T) >>= k ∧ k (some its.toArray) = pure (ps.zip (us ++ its.drop dvs.length))) :
    DefD K mg x st ps f (PySem.W.fnOf x x (defArgs st) (defBody st) (defScope st) (.ref T) kV doc pm an cdv ct) := by
  have F : FunD K x x (defArgs st) (defBody st) (defScope st) dvs [] f (PySem.W.fnOf x x (defArgs st) (defBody st) (defScope st) (.ref T) kV doc pm an cdv ct) :=
    ⟨⟨_, _, _, _, _, _, _, _, _, _, rfl, l, c, .inr ⟨d0, T, _, its, n, rfl, t, rfl, d⟩, .inl rfl⟩, k⟩
  refine ⟨⟨_, _, F⟩, PySem.W.mg_of X G a, ?_⟩
  obtain ⟨ds, v, B⟩ := F.binds1 ps.length dvs.length d0 (by rw [Nat.sub_self]; rfl) b
  rw [List.drop_length] at v
  cases v
  exact B
theorem exc_mk {x : Str} {C : Addr} (X : K.In h) (G : h.Ns mainGlobals mg) (a : PySem.W.nsIn K mainGlobals x = some (some (.ref C))) (i : PySem.W.excIn K C [.type "ValueError", .type "Exception", .type "BaseException", .type "object"] "ValueError.__new__" = true)
    (k : PySem.W.keepIn K (.ref C) = true) (s : PySem.W.subIn K (.ref C) (.type "BaseException") = some true) (t : PySem.W.typeIn K (.ref C) = some (.type "type")) : ExcF K mg x C := ⟨i, PySem.W.mg_of X G a, k, s, t⟩
end
end My
namespace My
open PySem PySem.Spec PyProof.Rows L2
theorem cx_no {P : Program} {w : World} {st : List Env} {H : Hp} {s s' : Shared} {e : Value} (h : L2.CX P w st H s (fun _ _ _ => False) e s') : False := by
  obtain ⟨_, _, _, _, _, _, _, _, _, _, _, _, z⟩ := h
  exact z
end My
/-! own exceptions with fields; defs called in an except suite; powers of any base -/
namespace My
open PySem PySem.Spec PyProof.Rows L2
/-! ### ** -/
def CPowG (i j : Int) : Prop := 0 ≤ j ∧ (Builtin.Int.intBits i : Int) * j ≤ 2 ^ 27
section
variable {X : Cx}
theorem op_powG : OpR X (binaryOp .Pow) (rI CPowG fun i j => .int (i ^ j.toNat)) := opI fun _ _ _ _ _ _ _ hc q => pow_int hc.1 hc.2 q
end
/-! ### a raise of an own class with its own __init__, no exception in the air -/
section
variable {X : Cx}
theorem pmk_oexN {CXa : CXT} {nm0 : Str} {e : Expr} {es : List Expr} {ta : TA} {p pos : Pos} {C fI : Addr} {k : Nat} {fd : FuncData} {ps : List Str} {sp : Sp} (T : OexC X.K C) (iC : PySem.W.findIn X.K (.ref C) "__init__" = some (some (.ref fI)))
    (tI : PySem.W.typeIn X.K (.ref fI) = some (.type "function")) (F1 : FnOk X.prog X.w X.K X.mg X.base CXa k fI fd ps sp) (hr : Room (k + 1) X.A) (hb : Binds X.K fd ps []) (hx : Passes CXa X (fun _ _ _ => False)) (hg : Gl X nm0) (hm : X.mg nm0 = some (.ref C)) (ha : PA X (e :: es) ta)
    (hdb : (nm0 == ("__debug__" : Str)) = false := by decide) (hst : starEach (e :: es) X.env = (false, eval e X.env) :: starEach es X.env := by rfl) (hpl : (backTo pos (starEach es X.env)).any (·.1) = false := by rfl) :
    L2N.PMk X (.Call (.Name nm0 p) (e :: es) [] pos) (tMkO C sp [] ta) := by
  intro pins s0 σ H0 Q0 J0 hyp
  obtain ⟨nm, q, N, bs, bm, sn, sub, ab, col, dd, k0, k1, k2, k3, k5, hC, hbm⟩ := T.cls
  refine wpAny_Call_Name_kw (ld_glob J0 hg hm ?_ hdb)
  refine PySem.W.callWith_K (h₀ := X.base) J0.ok.mod.kin T.kC (thn (ha.run pos pins s0 σ H0 _ J0 hyp) fun us s1 ⟨vs, Ha, Ja, r1, hz, qa⟩ => ⟨Ja.kIn, ?_⟩) hst hpl
  show wpAny _ _ (call (.ref C) us) _ _ _
  obtain ⟨h0, gn, dw, tk, os⟩ := s1
  let h1 : Heap := (h0.push (PySem.W.kdv_tup us)).push (PySem.HandSPX.excO C h0.objs.size)
  let ad : Addr := h0.objs.size + 1
  have fresh : Ha ad = none := Ja.hok.fresh (Nat.le_succ _)
  have qb := qa ad fresh
  rw [List.append_nil] at qb
  have keep : ∀ b o, h0.get? b = some o → h1.get? b = some o := fun b o z => Heap.get?_push_of_some _ (Heap.get?_push_of_some _ z)
  have there : h1.get? ad = some (PySem.HandSPX.excO C h0.objs.size) := by
    show Heap.get? ((h0.push (PySem.W.kdv_tup us)).push (PySem.HandSPX.excO C h0.objs.size)) (h0.objs.size + 1) = _
    heap_get
  have Jb : Inv X pins σ (upd Ha ad (exo ad C none)) ⟨h1, gn, dw, tk, os⟩ := Ja.laid (t' := tk) (a := ad) (o := exo ad C none) (h' := h1) keep (Nat.le_succ _) (exo_ok there)
  have r2 : Vals (V.ref ad :: vs) (Value.ref ad :: us) := .cons rfl r1
  have len1 : (Value.ref ad :: us ++ []).length = ps.length := by
    rw [List.append_nil]
    have z := r2.length
    rw [F1.len _ _ _ _ qb] at z
    exact z.symm
  have few : us.length ≤ sizeLine := by
    rw [sizeLine_eq, ← Paired.length r1]
    omega
  have bind := hb _ (Value.ref ad :: us) Jb.kIn len1
  rw [List.append_nil] at bind
  have made := F1.run _ X.stack _ _ ⟨Value.ref ad :: us, []⟩ (Value.ref ad :: us) _ _ (fun _ _ _ => False) (hr.make C us []) (Jb.env0.make C us []) bind r2 qb
  refine wpAny_call (PySem.HandSPX.call_own F.excBase_ValueError (fun Y => PySem.HandSPX.refsVE_contains Y bm hbm) (Ja.kIn _ _ hC) (PySem.W.looks_findIn Ja.kIn iC) (fun self => PySem.W.bind_fn Ja.kIn self tI) few (codeAny_mono made fun r s' out => ?_))
  cases r with
  | error er => exact hx pins σ _ _ er s' Jb out
  | ok fl =>
    cases fl with
    | next => exact False.elim out
    | brk => exact False.elim out
    | cont => exact False.elim out
    | ret u =>
      obtain ⟨v, Hb, osb, bareb, unb, hokb, rv, ev, d, fs, ea, ed, hd1, qc⟩ := out
      subst ev
      obtain ⟨h2, g2, d2, t2, os'⟩ := s'
      obtain ⟨t0, G, J, kG, ge, hoe, na⟩ := mk_end0 (d2 := d2) (t2 := t2) Ja (Nat.le_succ _) keep unb hokb osb bareb ea ed hd1
      exact ⟨rv, ad, _, _, ⟨G, g2, d2, t2, os'⟩, _, .ref C, some d, rfl, J, kG, ge, hoe, ⟨rfl, rfl, fun vs z => by cases z; rfl⟩, rfl, rfl, na, rfl, bareb, raises_own T.exC T.tyC, qc⟩
end
/-! ### defs that may raise an exception whose context is None -/
theorem passLN {X : Cx} : Passes (L2N.CX X.prog X.w) X E0 := fun _ _ _ _ _ _ _ h => by
  obtain ⟨_, _, _, _, _, _, _, _, _, _, _, _, z⟩ := h
  exact z.elim
theorem takesN0 {X : Cx} : L2N.Takes X (fun _ _ _ _ => False) := fun _ _ x => by
  obtain ⟨_, _, _, _, _, _, _, _, _, _, _, _, _, _, _, _, z⟩ := x
  exact z.elim
structure CalN (P : Program) (w : World) (K : PySem.W.Frag) (mg : Str → Option Value) (base : Heap) (k : Nat) (x : Str) (sp : Sp) : Prop where
  ex : ∃ (f : Addr) (fd : FuncData) (ps : List Str), FnOk P w K mg base (L2N.CX P w) k f fd ps sp ∧ mg x = some (.ref f) ∧ PySem.W.keepIn K (.ref f) = true ∧ Binds K fd ps []
structure CalH (P : Program) (w : World) (K : PySem.W.Frag) (mg : Str → Option Value) (base : Heap) (k : Nat) (x : Str) (sp : Sp) : Prop where
  ex : ∃ (f : Addr) (fd : FuncData) (ps : List Str), L2H.FnH P w K mg base (L2.CX P w) k f fd ps sp ∧ mg x = some (.ref f) ∧ PySem.W.keepIn K (.ref f) = true ∧ Binds K fd ps []
section
variable {P : Program} {w : World} {K : PySem.W.Frag} {mg : Str → Option Value} {base : Heap}
theorem fun_okN {x qual : Str} {st : Stmt} {f : Addr} {fd : FuncData} {N ps : List Str} {k : Nat} {sp : Sp} (F : Fun K x qual st f fd) (S : FnScope N ps (defScope st)) (len : ∀ vs H Q E, sp vs H Q E → vs.length = ps.length)
    (hbody : ∀ (cdv : Value) (A : Around) (outer : List Env) (s : Shared) (H : Hp) (vs : List V) (Q : VK) (E : XK), Room k (A.deeper (envOfC qual (defScope st) s.heap.objs.size f cdv)) → sp vs H Q E →
      ∃ t, PSs (cxOf (L2N.CX P w) P w K mg base N qual (defScope st) f cdv A outer s H E) (defBody st) t ∧ t { nx := fun _ H' => Q .non H', rt := Q } (start N vs) H) : FnOk P w K mg base (L2N.CX P w) (k + 1) f fd ps sp := by
  obtain ⟨oc, od, kV, doc, pm, an, cdv, ct, osl, rfl, lk, hcd⟩ := F.ex
  exact fn_of lk hcd S len fun A outer s H vs Q E hr h => hbody cdv A outer s H vs Q E hr h
theorem cal_ofN {x : Str} {st : Stmt} {f : Addr} {fd : FuncData} {N ps : List Str} {k : Nat} {sp : Sp} (F : DefF K mg x st ps f fd) (S : FnScope N ps (defScope st)) (len : ∀ vs H Q E, sp vs H Q E → vs.length = ps.length)
    (hbody : ∀ (cdv : Value) (A : Around) (outer : List Env) (s : Shared) (H : Hp) (vs : List V) (Q : VK) (E : XK), Room k (A.deeper (envOfC x (defScope st) s.heap.objs.size f cdv)) → sp vs H Q E →
      ∃ t, PSs (cxOf (L2N.CX P w) P w K mg base N x (defScope st) f cdv A outer s H E) (defBody st) t ∧ t { nx := fun _ H' => Q .non H', rt := Q } (start N vs) H) : CalN P w K mg base (k + 1) x sp :=
  ⟨f, fd, ps, fun_okN F.fn S len hbody, F.mgf, F.fn.kp, F.bi⟩
theorem cal_ofH {x : Str} {st : Stmt} {f : Addr} {fd : FuncData} {N ps : List Str} {k : Nat} {sp : Sp} (F : DefF K mg x st ps f fd) (S : FnScope N ps (defScope st)) (len : ∀ vs H Q E, sp vs H Q E → vs.length = ps.length)
    (hbody : ∀ (cdv : Value) (A : Around) (outer : List Env) (s : Shared) (H : Hp) (vs : List V) (Q : VK) (E : XK) (p : Addr × Obj), L2H.Hot1 A p → L2H.RoomH k (A.deeper (envOfC x (defScope st) s.heap.objs.size f cdv)) → sp vs H Q E →
      ∃ t, PSs (L2H.cxH (L2.CX P w) P w K mg base N x (defScope st) f cdv A outer s H E p).nox (defBody st) t ∧ t { nx := fun _ H' => Q .non H', rt := Q } (start N vs) H) : CalH P w K mg base (k + 1) x sp := by
  obtain ⟨oc, od, kV, doc, pm, an, cdv, ct, osl, rfl, lk, hcd⟩ := F.fn.ex
  exact ⟨f, _, ps, L2H.fn_ofH lk hcd S len fun A outer s H vs Q E p hot hr h => let ⟨t, h1, h2⟩ := hbody cdv A outer s H vs Q E p hot hr h; ⟨t, h1.nox, h2⟩, F.mgf, F.fn.kp, F.bi⟩
end
section
variable {X : Cx} {k j : Nat} {x : Str} {sp : Sp} {p pos : Pos} {e : Expr} {es : List Expr} {t : TA}
theorem pe_ccN (c : CalN X.prog X.w X.K X.mg X.base k x sp) (hr : Room j X.A) (hk : k ≤ j) (hg : Gl X x) (ha : PA X (e :: es) t)
    (hdb : (x == ("__debug__" : Str)) = false := by decide) (hst : starEach (e :: es) X.env = (false, eval e X.env) :: starEach es X.env := by rfl) (hpl : (backTo pos (starEach es X.env)).any (·.1) = false := by rfl) :
    PE X (.Call (.Name x p) (e :: es) [] pos) (tCall sp [] E0 t) := by
  obtain ⟨f, fd, ps, F, hm, kp, b⟩ := c.ex
  exact pe_call F (hr.mono hk) hg hm kp b .nil passLN ha hdb hst hpl
theorem pe_ccSN {W : WX} (c : CalN X.prog X.w X.K X.mg X.base k x sp) (hr : Room j X.A) (hk : k ≤ j) (hg : Gl X x) (tk : L2N.Takes X W) (ha : PA X (e :: es) t)
    (hdb : (x == ("__debug__" : Str)) = false := by decide) (hst : starEach (e :: es) X.env = (false, eval e X.env) :: starEach es X.env := by rfl) (hpl : (backTo pos (starEach es X.env)).any (·.1) = false := by rfl) :
    PE X (.Call (.Name x p) (e :: es) [] pos) (tCallS sp (WE W) t) := by
  obtain ⟨f, fd, ps, F, hm, kp, b⟩ := c.ex
  exact pe_callS F (hr.mono hk) hg hm kp b (fun σ => L2N.passAt tk σ) ha hdb hst hpl
theorem pe_ccH (c : CalH X.prog X.w X.K X.mg X.base k x sp) (hr : L2H.RoomH j X.A) (hk : k ≤ j) (hc : L2H.HotC X) (hg : Gl X x) (ha : PA X (e :: es) t)
    (hdb : (x == ("__debug__" : Str)) = false := by decide) (hst : starEach (e :: es) X.env = (false, eval e X.env) :: starEach es X.env := by rfl) (hpl : (backTo pos (starEach es X.env)).any (·.1) = false := by rfl) :
    PE X (.Call (.Name x p) (e :: es) [] pos) (tCallS sp (fun _ => E0) t) := by
  obtain ⟨f, fd, ps, F, hm, kp, b⟩ := c.ex
  exact L2H.pe_callH F (hr.mono hk) hc hg hm kp b (fun σ pins H s u s' I h => by
    obtain ⟨_, _, _, _, _, _, _, _, _, _, _, _, z⟩ := h
    exact z.elim) ha hdb hst hpl
end
/-- in the suite the caught exception is the hot one -/
theorem hot_suite {X : Cx} {a : Addr} {oe : Obj} {cls : Value} {d : Option Addr} {pn : List (Addr × Obj)} (hz : L2N.Zn cls d oe) (hf : ∃ vs, oe.data = .fields vs) : L2H.HotC (X.suite a ((a, oe) :: pn)) := by
  obtain ⟨vs, e⟩ := hf
  exact ⟨(a, oe), ⟨rfl, vs, e, hz.2.2 vs e⟩, List.mem_cons_self⟩
/-! ### isinstance of the caught exception, with or without fields -/
def rIsY (K : PySem.W.Frag) (a : Addr) (cls : Value) (d : Option Addr) (D : Addr) : List V → Hp → VK → Prop := fun xs H Q => ∃ (c : V) (cv : Value) (b : Bool), xs = [.ref a, c] ∧ cls = .ref D ∧ (d = none ∨ ∃ dd fs, d = some dd ∧ H dd = some (.xd fs)) ∧
  (∀ u, RelV c u → u = cv) ∧ PySem.W.kitOne K (.ref D) cv = some b ∧ Q (.bl b) H
theorem inst_xd {X : Cx} {pins : List (Addr × Obj)} {σ : L2.St} {H : Hp} {s : Shared} {a D : Addr} {oe : Obj} {d : Option Addr} {vs : Array Value} (I : Inv X pins σ H s) (hget : s.heap.get? a = some oe) (hz : Zc (.ref D) d oe) (hv : oe.data = .fields vs)
    (hd : d = none ∨ ∃ dd fs, d = some dd ∧ H dd = some (.xd fs)) : ∃ od, PySem.W.InstAt s.heap a oe D od := by
  obtain ⟨oc, odic, oda, osl⟩ := oe
  obtain ⟨h1, h2⟩ := hz
  dsimp only at h1 h2 hv
  subst h1 h2 hv
  rcases hd with e | ⟨dd, fs, e, ea⟩
  · subst e
    exact ⟨none, hget, rfl, rfl, trivial⟩
  · subst e
    obtain ⟨mA, hns, _⟩ := (show ObjOk X.prog X.w H s.heap dd (.xd fs) from I.hok dd _ ea)
    obtain ⟨ob, ho, _⟩ := lookIn_ns hns
    exact ⟨some ob, hget, rfl, rfl, ho⟩
theorem kit_excC {K : PySem.W.Frag} {a D : Addr} {oe : Obj} {od : Option Obj} (C : ExcC K D) : PySem.W.KitX K (.ref a) (.ref D) (fun h => PySem.W.InstAt h a oe D od) := by
  refine PySem.W.kitx_exc ?_ C.hg C.hk C.hs C.ha C.hn C.ht C.hm
  obtain ⟨cd, hc, _⟩ := PySem.W.any_some C.hd
  rw [hc]
  rfl
theorem k_isY {X : Cx} {K : PySem.W.Frag} {a D : Addr} {cls : Value} {d : Option Addr} {oe : Obj} {pn : List (Addr × Obj)} (h : X.K = K) (C : ExcC K D) (hz : Zc cls d oe) (hf : ∃ vs, oe.data = .fields vs) : CallR (X.suite a ((a, oe) :: pn)) (.builtin "isinstance") (rIsY K a cls d D) := by
  subst h
  intro pins s σ H xs us Q I r hyp
  obtain ⟨c, cv, b, rfl, ec, hd, hcv, e, q⟩ := hyp
  subst ec
  cases r with
  | cons rx rr =>
    cases rr with
    | cons rt rr =>
      cases rr
      cases rx
      obtain rfl := hcv _ rt
      obtain ⟨vs, hv⟩ := hf
      obtain ⟨od, J⟩ := inst_xd I (I.pin (a, oe) (List.mem_append.mpr (.inl List.mem_cons_self))).1 hz hv hd
      exact PySem.W.kia_one (kit_excC C) I.kIn J e (fun z => nomatch z) fun tk => ⟨.bl b, H, I.kept (t' := tk) fun _ _ z => z, rfl, q⟩
theorem w_isY {K : PySem.W.Frag} {D a : Addr} {d : Option Addr} {c : V} {cv : Value} {b : Bool} {H : Hp} {Q : VK} (hd : d = none ∨ ∃ dd fs, d = some dd ∧ H dd = some (.xd fs)) (hc : ∀ u, RelV c u → u = cv) (h : PySem.W.kitOne K (.ref D) cv = some b) (q : Q (.bl b) H) :
    rIsY K a (.ref D) d D [.ref a, c] H Q := ⟨c, cv, b, rfl, rfl, hd, hc, h, q⟩
theorem w_xf {a C : Addr} {cls : Value} {d : Option Addr} {f : Str} {te : TE} {σ : L2.St} {H : Hp} {Q : VK} (h : te σ H fun x H1 => x = .ref a ∧ cls = .ref C ∧ ∃ (dd : Addr) (fs : List (Str × V)) (v : V), d = some dd ∧ H1 dd = some (.xd fs) ∧ fs.lookup f = some v ∧ Q v H1) :
    tXf a cls d C f te σ H Q := h
theorem w_callS {sp : Sp} {E : L2.St → XK} {t : TA} {σ : L2.St} {H : Hp} {Q : VK} (h : t σ H fun vs H1 => sp vs H1 Q (E σ)) : tCallS sp E t σ H Q := h
theorem xf_of {K : PySem.W.Frag} {D : Addr} (C : ExcC K D) : XfC K D := ⟨C.hg, C.hk, C.hs, C.hd⟩
/-- an own class with its own __init__ -/
structure OexD (P : Program) (w : World) (K : PySem.W.Frag) (mg : Str → Option Value) (base : Heap) (k : Nat) (x : Str) (C : Addr) (sp : Sp) : Prop where
  T : OexC K C
  gl : mg x = some (.ref C)
  ex : ∃ (fI : Addr) (fd : FuncData) (ps : List Str), PySem.W.findIn K (.ref C) "__init__" = some (some (.ref fI)) ∧ PySem.W.typeIn K (.ref fI) = some (.type "function") ∧ FnOk P w K mg base (L2.CX P w) k fI fd ps sp ∧ Binds K fd ps []
theorem pmk_ox {X : Cx} {k j : Nat} {nm0 : Str} {C : Addr} {sp : Sp} {e : Expr} {es : List Expr} {ta : TA} {p pos : Pos} (O : OexD X.prog X.w X.K X.mg X.base k nm0 C sp) (hr : Room j X.A) (hk : k + 1 ≤ j) (hg : Gl X nm0) (ha : PA X (e :: es) ta)
    (hdb : (nm0 == ("__debug__" : Str)) = false := by decide) (hst : starEach (e :: es) X.env = (false, eval e X.env) :: starEach es X.env := by rfl) (hpl : (backTo pos (starEach es X.env)).any (·.1) = false := by rfl) :
    L2N.PMk X (.Call (.Name nm0 p) (e :: es) [] pos) (tMkO C sp [] ta) := by
  obtain ⟨fI, fd, ps, iC, tI, F, b⟩ := O.ex
  exact pmk_oexN O.T iC tI F (hr.mono hk) b (fun pins σ H s u s' I h => by
    obtain ⟨_, _, _, _, _, _, _, _, _, _, _, _, z⟩ := h
    exact z.elim) hg O.gl ha hdb hst hpl
/-- __init__(self, x, y): two fields -/
def sp_init2 (K : PySem.W.Frag) (C : Addr) (f g : Str) : Sp := fun vs H Q _ => ∃ (a : Addr) (x y : V), vs = [.ref a, x, y] ∧ H a = some (exo a C none) ∧
  ∀ (d : Addr) H', H d = none → d ≠ a → (∀ b, b ≠ a → b ≠ d → H' b = H b) → H' a = some (exo a C (some d)) → H' d = some (exd d [(g, y), (f, x)]) → Q .non H'
def sp_init1 (K : PySem.W.Frag) (C : Addr) (f : Str) : Sp := fun vs H Q _ => ∃ (a : Addr) (x : V), vs = [.ref a, x] ∧ H a = some (exo a C none) ∧
  ∀ (d : Addr) H', H d = none → d ≠ a → (∀ b, b ≠ a → b ≠ d → H' b = H b) → H' a = some (exo a C (some d)) → H' d = some (exd d [(f, x)]) → Q .non H'
theorem w_mkO {C : Addr} {sp : Sp} {ta : TA} {σ : L2.St} {H : Hp} {Q : XK} (h : ta σ H fun vs H1 => vs.length ≤ 1000 ∧ ∀ a, H1 a = none → sp (.ref a :: (vs ++ [])) (upd H1 a (exo a C none))
    (fun v H2 => v = .non ∧ ∃ (d : Addr) (fs : List (Str × V)), H2 a = some (exo a C (some d)) ∧ H2 d = some (exd d fs) ∧ H1 d = none ∧ Q (.ref C) (some d) (upd (del H2 a) d (.xd fs))) (fun _ _ _ => False)) : tMkO C sp [] ta σ H Q := h
theorem made_ch {H1 H' : Hp} {a C d : Addr} {o u : HO} {fs : List (Str × V)} (na : H1 a = none) (hd : upd H1 a o d = none) (da : d ≠ a) (hk : ∀ b, b ≠ a → b ≠ d → H' b = upd H1 a o b) : Ch [] H1 (upd (del H' a) d u) := fun b ob e => by
  have n1 : b ≠ a := ne_of_none e na
  have hd1 : H1 d = none := by rw [upd_ne da] at hd; exact hd
  have n2 : b ≠ d := ne_of_none e hd1
  left
  rw [upd_ne n2, del_ne n1, hk b n1 n2, upd_ne n1]
  exact e
theorem mk2_at {K : PySem.W.Frag} {C : Addr} {f g : Str} {x y : V} {H1 : Hp} {Q : XK} (h : ∀ (d : Addr) H', Ch [] H1 H' → H' d = some (.xd [(g, y), (f, x)]) → Q (.ref C) (some d) H') :
    [x, y].length ≤ 1000 ∧ ∀ a, H1 a = none → sp_init2 K C f g (.ref a :: ([x, y] ++ [])) (upd H1 a (exo a C none))
      (fun v H2 => v = .non ∧ ∃ (d : Addr) (fs : List (Str × V)), H2 a = some (exo a C (some d)) ∧ H2 d = some (exd d fs) ∧ H1 d = none ∧ Q (.ref C) (some d) (upd (del H2 a) d (.xd fs))) (fun _ _ _ => False) :=
  ⟨(show 2 ≤ 1000 by decide), fun a na => ⟨a, x, y, rfl, upd_same, fun d H' hd da hk ha hd2 => ⟨rfl, d, _, ha, hd2, by rw [upd_ne da] at hd; exact hd, h d _ (made_ch (C := C) (fs := []) na hd da hk) upd_same⟩⟩⟩
theorem mk1_at {K : PySem.W.Frag} {C : Addr} {f : Str} {x : V} {H1 : Hp} {Q : XK} (h : ∀ (d : Addr) H', Ch [] H1 H' → H' d = some (.xd [(f, x)]) → Q (.ref C) (some d) H') :
    [x].length ≤ 1000 ∧ ∀ a, H1 a = none → sp_init1 K C f (.ref a :: ([x] ++ [])) (upd H1 a (exo a C none))
      (fun v H2 => v = .non ∧ ∃ (d : Addr) (fs : List (Str × V)), H2 a = some (exo a C (some d)) ∧ H2 d = some (exd d fs) ∧ H1 d = none ∧ Q (.ref C) (some d) (upd (del H2 a) d (.xd fs))) (fun _ _ _ => False) :=
  ⟨(show 1 ≤ 1000 by decide), fun a na => ⟨a, x, rfl, upd_same, fun d H' hd da hk ha hd2 => ⟨rfl, d, _, ha, hd2, by rw [upd_ne da] at hd; exact hd, h d _ (made_ch (C := C) (fs := []) na hd da hk) upd_same⟩⟩⟩
/-! ### the text of such an __init__: self.f = x; self.g = y -/
section
variable {P : Program} {w : World} {K : PySem.W.Frag} {mg : Str → Option Value} {base : Heap} {C fI : Addr} {fd : FuncData} {f g : Str} {st : Stmt} {qual : Str} {p1 p2 p3 p4 p5 p6 p7 p8 : Pos}
theorem exd_upd {H : Hp} {a d C : Addr} {o : HO} (na : H d = none) (da : d ≠ a) : upd (upd H d o) a (exo a C (some d)) d = some o := by rw [upd_ne da, upd_same]
theorem init2_pure {H : Hp} {Q : VK} {x y : V} {a : Addr} (T : OexC K C) (nf : PySem.W.findIn K (.ref C) f = some none) (ng : PySem.W.findIn K (.ref C) g = some none) (ea : H a = some (exo a C none))
    (q : ∀ (d : Addr) H', H d = none → d ≠ a → (∀ b, b ≠ a → b ≠ d → H' b = H b) → H' a = some (exo a C (some d)) → H' d = some (exd d [(g, y), (f, x)]) → Q .non H') :
    tSeq (tOst K f (tVar 0) (tVar 1)) (tOst K g (tVar 0) (tVar 2)) { nx := fun _ H' => Q .non H', rt := Q } [some (.ref a), some x, some y] H := by
  refine ⟨x, rfl, .ref a, rfl, a, C, rfl, T, nf, .inl ⟨ea, fun dx hdx hda => ⟨y, rfl, .ref a, rfl, a, C, rfl, T, ng, .inr ⟨dx, _, upd_same, exd_upd hdx hda, by simp, ?_⟩⟩⟩⟩
  refine q dx _ hdx hda (fun b hb hd => ?_) ?_ upd_same
  · rw [upd_ne hd, upd_ne hb, upd_ne hd]
  · rw [upd_ne (Ne.symm hda), upd_same]
theorem init1_pure {H : Hp} {Q : VK} {x : V} {a : Addr} (T : OexC K C) (nf : PySem.W.findIn K (.ref C) f = some none) (ea : H a = some (exo a C none))
    (q : ∀ (d : Addr) H', H d = none → d ≠ a → (∀ b, b ≠ a → b ≠ d → H' b = H b) → H' a = some (exo a C (some d)) → H' d = some (exd d [(f, x)]) → Q .non H') :
    tOst K f (tVar 0) (tVar 1) { nx := fun _ H' => Q .non H', rt := Q } [some (.ref a), some x] H := by
  refine ⟨x, rfl, .ref a, rfl, a, C, rfl, T, nf, .inl ⟨ea, fun dx hdx hda => ?_⟩⟩
  refine q dx _ hdx hda (fun b hb hd => ?_) upd_same (exd_upd hdx hda)
  rw [upd_ne hb, upd_ne hd]
end
end My
/-! own exceptions held as values: made, asked by isinstance, their fields read -/
namespace My
open PySem PySem.Spec PyProof.Rows L2
/-- an exception of the class at D stands at a -/
def Exv (H : Hp) (a D : Addr) : Prop := H a = some (ExO (.ref D) a) ∨ ∃ d fs, H a = some (exo a D (some d)) ∧ H d = some (exd d fs)
theorem Exv.ch {H H' : Hp} {a D : Addr} (h : Exv H a D) (c : Ch [] H H') : Exv H' a D := by
  rcases h with h | ⟨d, fs, h1, h2⟩
  · exact .inl (c.at0 h)
  · exact .inr ⟨d, fs, c.at0 h1, c.at0 h2⟩
/-- .. with a field f that holds v -/
def Exf (H : Hp) (a D : Addr) (fs : List (Str × V)) : Prop := ∃ d, H a = some (exo a D (some d)) ∧ H d = some (exd d fs)
theorem Exf.ch {H H' : Hp} {a D : Addr} {fs : List (Str × V)} (h : Exf H a D fs) (c : Ch [] H H') : Exf H' a D fs := by
  obtain ⟨d, h1, h2⟩ := h
  exact ⟨d, c.at0 h1, c.at0 h2⟩
theorem Exf.v {H : Hp} {a D : Addr} {fs : List (Str × V)} (h : Exf H a D fs) : Exv H a D := by
  obtain ⟨d, h1, h2⟩ := h
  exact .inr ⟨d, fs, h1, h2⟩
section
variable {X : Cx}
/-- X(), an own class without own __init__, as a value -/
theorem pe_exc0 {C : Addr} {bmB : List Value} {B newId initId : String} {x : Str} {p pos : Pos} (F : ExcBaseFacts B newId initId bmB) (q : PySem.W.excIn X.K C bmB newId = true) (gC : X.mg x = some (.ref C)) (kC : PySem.W.keepIn X.K (.ref C) = true) (hg : Gl X x)
    (hdb : (x == ("__debug__" : Str)) = false := by decide) : PE X (.Call (.Name x p) [] [] pos) (fun _ H Q => ∀ a, H a = none → Q (.ref a) (upd H a (ExO (.ref C) a))) := by
  refine ⟨fun pins s σ H Q I hyp => ?_⟩
  refine wpAny_Call_Name_kw (ld_glob I hg gC ?_ hdb)
  refine PySem.W.callWith_K0 I.kIn kC ?_
  show wpAny _ _ (call (.ref C) []) _ _ _
  obtain ⟨bm, N, nm, qn, bs, hdct, sn, sub, ab, col, dd, k0, k1, k2, k3, k5, mN, hC, hN, hni, T⟩ := exc_obj I.kIn q
  refine wpAny_call_exc_subT F T hC hN hni (fun hq a made => ?_) (Nat.zero_le _)
  have none_ : H a = none := I.hok.gone made.new
  obtain ⟨t, there, _, _⟩ := made.there
  exact ⟨.ref a, upd H a (ExO (.ref C) a), I.laidN made.keeps made.new none_ (exO_ok there ⟨rfl, rfl⟩ rfl rfl rfl (show 4 < 6 by decide)), rfl, hyp a none_⟩
/-- C(e, ..), C's own __init__ keeping sp, as a value -/
def tMkV (C : Addr) (sp : Sp) (ta : TA) : TE := fun σ H Q => ta σ H fun vs H1 => vs.length ≤ 1000 ∧ ∀ a, H1 a = none → sp (.ref a :: (vs ++ [])) (upd H1 a (exo a C none)) (fun v H2 => v = .non ∧ Q (.ref a) H2) fun _ _ _ => False
theorem pe_oexV {CXa : CXT} {nm0 : Str} {e : Expr} {es : List Expr} {ta : TA} {p pos : Pos} {C fI : Addr} {k : Nat} {fd : FuncData} {ps : List Str} {sp : Sp} (T : OexC X.K C) (iC : PySem.W.findIn X.K (.ref C) "__init__" = some (some (.ref fI)))
    (tI : PySem.W.typeIn X.K (.ref fI) = some (.type "function")) (F1 : FnOk X.prog X.w X.K X.mg X.base CXa k fI fd ps sp) (hr : Room (k + 1) X.A) (hb : Binds X.K fd ps []) (hx : Passes CXa X (fun _ _ _ => False)) (hg : Gl X nm0) (hm : X.mg nm0 = some (.ref C)) (ha : PA X (e :: es) ta)
    (hdb : (nm0 == ("__debug__" : Str)) = false := by decide) (hst : starEach (e :: es) X.env = (false, eval e X.env) :: starEach es X.env := by rfl) (hpl : (backTo pos (starEach es X.env)).any (·.1) = false := by rfl) :
    PE X (.Call (.Name nm0 p) (e :: es) [] pos) (tMkV C sp ta) := by
  refine ⟨fun pins s0 σ H0 Q0 J0 hyp => ?_⟩
  obtain ⟨nm, q, N, bs, bm, sn, sub, ab, col, dd, k0, k1, k2, k3, k5, hC, hbm⟩ := T.cls
  refine wpAny_Call_Name_kw (ld_glob J0 hg hm ?_ hdb)
  refine PySem.W.callWith_K (h₀ := X.base) J0.ok.mod.kin T.kC (thn (ha.run pos pins s0 σ H0 _ J0 hyp) fun us s1 ⟨vs, Ha, Ja, r1, hz, qa⟩ => ⟨Ja.kIn, ?_⟩) hst hpl
  show wpAny _ _ (call (.ref C) us) _ _ _
  obtain ⟨h0, gn, dw, tk, os⟩ := s1
  let h1 : Heap := (h0.push (PySem.W.kdv_tup us)).push (PySem.HandSPX.excO C h0.objs.size)
  let ad : Addr := h0.objs.size + 1
  have fresh : Ha ad = none := Ja.hok.fresh (Nat.le_succ _)
  have qb := qa ad fresh
  rw [List.append_nil] at qb
  have keep : ∀ b o, h0.get? b = some o → h1.get? b = some o := fun b o z => Heap.get?_push_of_some _ (Heap.get?_push_of_some _ z)
  have there : h1.get? ad = some (PySem.HandSPX.excO C h0.objs.size) := by
    show Heap.get? ((h0.push (PySem.W.kdv_tup us)).push (PySem.HandSPX.excO C h0.objs.size)) (h0.objs.size + 1) = _
    heap_get
  have Jb : Inv X pins σ (upd Ha ad (exo ad C none)) ⟨h1, gn, dw, tk, os⟩ := Ja.laid (t' := tk) (a := ad) (o := exo ad C none) (h' := h1) keep (Nat.le_succ _) (exo_ok there)
  have r2 : Vals (V.ref ad :: vs) (Value.ref ad :: us) := .cons rfl r1
  have len1 : (Value.ref ad :: us ++ []).length = ps.length := by
    rw [List.append_nil]
    have z := r2.length
    rw [F1.len _ _ _ _ qb] at z
    exact z.symm
  have few : us.length ≤ sizeLine := by
    rw [sizeLine_eq, ← Paired.length r1]
    omega
  have bind := hb _ (Value.ref ad :: us) Jb.kIn len1
  rw [List.append_nil] at bind
  have made := F1.run _ X.stack _ _ ⟨Value.ref ad :: us, []⟩ (Value.ref ad :: us) _ _ (fun _ _ _ => False) (hr.make C us []) (Jb.env0.make C us []) bind r2 qb
  refine wpAny_call (PySem.HandSPX.call_own F.excBase_ValueError (fun Y => PySem.HandSPX.refsVE_contains Y bm hbm) (Ja.kIn _ _ hC) (PySem.W.looks_findIn Ja.kIn iC) (fun self => PySem.W.bind_fn Ja.kIn self tI) few (codeAny_mono made fun r s' out => ?_))
  cases r with
  | error er => exact hx pins σ _ _ er s' Jb out
  | ok fl =>
    cases fl with
    | next => exact False.elim out
    | brk => exact False.elim out
    | cont => exact False.elim out
    | ret u =>
      obtain ⟨v, Hb, Jc, rv, ev, qc⟩ := Jb.after out
      subst ev
      exact ⟨rv, .ref ad, Hb, Jc, rfl, qc⟩
theorem pe_oxV {k j : Nat} {nm0 : Str} {C : Addr} {sp : Sp} {e : Expr} {es : List Expr} {ta : TA} {p pos : Pos} (O : OexD X.prog X.w X.K X.mg X.base k nm0 C sp) (hr : Room j X.A) (hk : k + 1 ≤ j) (hg : Gl X nm0) (ha : PA X (e :: es) ta)
    (hdb : (nm0 == ("__debug__" : Str)) = false := by decide) (hst : starEach (e :: es) X.env = (false, eval e X.env) :: starEach es X.env := by rfl) (hpl : (backTo pos (starEach es X.env)).any (·.1) = false := by rfl) :
    PE X (.Call (.Name nm0 p) (e :: es) [] pos) (tMkV C sp ta) := by
  obtain ⟨fI, fd, ps, iC, tI, F, b⟩ := O.ex
  exact pe_oexV O.T iC tI F (hr.mono hk) b (fun pins σ H s u s' I h => by
    obtain ⟨_, _, _, _, _, _, _, _, _, _, _, _, z⟩ := h
    exact z.elim) hg O.gl ha hdb hst hpl
/-- the instance behind a tracked exception -/
theorem inst_exv {pins : List (Addr × Obj)} {σ : L2.St} {H : Hp} {s : Shared} {a D : Addr} (I : Inv X pins σ H s) (h : Exv H a D) : ∃ oe od, PySem.W.InstAt s.heap a oe D od := by
  rcases h with h | ⟨d, fs, h1, h2⟩
  · obtain ⟨⟨oe, vs, ho, hz, hd, _⟩, _, _⟩ := I.hok a _ h
    obtain ⟨oc, odic, oda, osl⟩ := oe
    obtain ⟨z1, z2⟩ := hz
    dsimp only at z1 z2 hd
    subst z1 z2 hd
    exact ⟨_, none, ho, rfl, rfl, trivial⟩
  · obtain ⟨t1, ho⟩ := exo_at I.hok h1
    obtain ⟨mA, hns, _⟩ := exd_at I.hok h2
    obtain ⟨ob, hob, _⟩ := lookIn_ns hns
    exact ⟨_, some ob, ho, rfl, rfl, hob⟩
def rIsV (K : PySem.W.Frag) : List V → Hp → VK → Prop := fun xs H Q => ∃ (a D : Addr) (c : V) (cv : Value) (b : Bool), xs = [.ref a, c] ∧ Exv H a D ∧ ExcC K D ∧ (∀ u, RelV c u → u = cv) ∧ PySem.W.kitOne K (.ref D) cv = some b ∧ Q (.bl b) H
theorem k_isV {K : PySem.W.Frag} (h : X.K = K) : CallR X (.builtin "isinstance") (rIsV K) := by
  subst h
  intro pins s σ H xs us Q I r hyp
  obtain ⟨a, D, c, cv, b, rfl, hv, C, hcv, e, q⟩ := hyp
  cases r with
  | cons rx rr =>
    cases rr with
    | cons rt rr =>
      cases rr
      cases rx
      obtain rfl := hcv _ rt
      obtain ⟨oe, od, J⟩ := inst_exv I hv
      exact PySem.W.kia_one (kit_excC C) I.kIn J e (fun z => nomatch z) fun tk => ⟨.bl b, H, I.kept (t' := tk) fun _ _ z => z, rfl, q⟩
/-- err.f of a held exception -/
def tXa (K : PySem.W.Frag) (f : Str) (te : TE) : TE := fun σ H Q => te σ H fun x H1 => ∃ (a D : Addr) (fs : List (Str × V)) (v : V), x = .ref a ∧ Exf H1 a D fs ∧ XfC K D ∧ PySem.W.findIn K (.ref D) f = some none ∧ fs.lookup f = some v ∧ Q v H1
theorem pe_xa {K : PySem.W.Frag} {e : Expr} {te : TE} {pos : Pos} {n : Str} (h : X.K = K) (he : PE X e te) (hb : attributeBase e n X.env (eval e X.env) = eval e X.env := by rfl) : PE X (.Attribute e n pos) (tXa K n te) := by
  subst h
  refine ⟨fun pins s σ H Q I hyp => ?_⟩
  refine attr_of hb (thn (he.run pins s σ H _ I hyp) fun u s1 hh => ?_)
  obtain ⟨x, H1, I1, rx, a, D, fs, v, ex, ⟨d, e1, e2⟩, T, hno, l, q⟩ := hh
  subst ex
  obtain rfl : u = Value.ref a := rx
  obtain ⟨t1, ho⟩ := exo_at I1.hok e1
  obtain ⟨mA, hns, hrel⟩ := exd_at I1.hok e2
  obtain ⟨ob, hob, hl⟩ := lookIn_ns hns
  obtain ⟨w, hw, rw'⟩ := RelO.some_of (v := v) (o := mA n) (by rw [← l]; exact hrel n)
  exact HandSPX.exc_get I1.kIn (⟨ho, rfl, rfl, hob⟩ : PySem.W.InstAt s1.heap a _ D (some ob)) T.ga T.gg T.exC (PySem.W.findObj_own T.hdC hno rfl (by rw [hl, hw])) (handed_of rw') ⟨v, H1, I1.tok _, rw', q⟩
end
end My
/-! defs that are called in an except suite with the caught exception itself -/
namespace My
open PySem PySem.Spec PyProof.Rows L2
/-- sp a: the promise where the exception that is handled stands at a; its class is D, without fields -/
structure FnP (P : Program) (w : World) (K : PySem.W.Frag) (mg : Str → Option Value) (base : Heap) (CX : CXT) (k : Nat) (D f : Addr) (fd : FuncData) (ps : List Str) (sp : Addr → Sp) : Prop where
  len : ∀ a vs H Q E, sp a vs H Q E → vs.length = ps.length
  run : ∀ (A : Around) (outer : List Env) (s : Shared) (H : Hp) (args : Args) (us : List Value) (vs : List V) (Q : VK) (E : XK) (p : Addr × Obj), L2H.RoomH k A → L2H.Hot1 A p → Zc (.ref D) none p.2 → L2H.PinOk outer H s p → Env0 P w K mg base A outer s H → BindsTo s fd args (ps.zip us) → Vals vs us → sp p.1 vs H Q E →
    codeAny (model P w) A (.call (.ref f) args) (CR CX outer P w H s Q E) s
theorem fn_ofP {CX : CXT} {P : Program} {w : World} {K : PySem.W.Frag} {mg : Str → Option Value} {base : Heap} {k : Nat} {D f : Addr} {name qual : Str} {params : Arguments} {body : List Stmt} {scope : Scope} {dV kV doc pm cdv ct oc : Value} {an od : Option Addr}
    {osl : Array (Option Value)} {N ps : List Str} {sp : Addr → Sp} (lk : K.lookup f = some ⟨oc, od, .func (PySem.W.fnOf name qual params body scope dV kV doc pm an cdv ct), osl⟩) (code : PySem.W.codeIn K cdv qual = true) (S : FnScope N ps scope)
    (len : ∀ a vs H Q E, sp a vs H Q E → vs.length = ps.length)
    (hbody : ∀ (A : Around) (outer : List Env) (s : Shared) (H : Hp) (vs : List V) (Q : VK) (E : XK) (p : Addr × Obj), L2H.Hot1 A p → Zc (.ref D) none p.2 → L2H.RoomH k (A.deeper (envOfC qual scope s.heap.objs.size f cdv)) → sp p.1 vs H Q E →
      ∃ t, PSs (L2H.cxH CX P w K mg base N qual scope f cdv A outer s H E p) body t ∧ t { nx := fun _ H' => Q .non H', rt := Q } (L2.start N vs) H) :
    FnP P w K mg base CX (k + 1) D f (PySem.W.fnOf name qual params body scope dV kV doc pm an cdv ct) ps sp := by
  refine ⟨len, fun A outer s H args us vs Q E p room hot zc pinOk env0 binds rel hyp => ?_⟩
  have many := len _ _ _ _ _ hyp
  have KX : K.In s.heap := env0.mod.kin.keeps fun b o e => (env0.bs b o e).1
  have lim : s.heap.NoLimit := env0.mod.nolimit.keeps fun b o e => (env0.bs b o e).1
  have kinds : ∀ y ∈ ps.zip us, scope.names.lookup y.1 = some .local ∨ (scope.names.lookup y.1 = some .cell ∧ ((cellsFrom (s.heap.objs.size + 1) scope.names []).lookup y.1).isSome = true) := fun ⟨n, v⟩ hy => by
    rcases S.par n (List.of_mem_zip hy).1 with z | z
    · exact .inl z
    · exact .inr ⟨z, PySem.W.cellsFrom_some _ _ _ (.inl z)⟩
  refine codeAny_call_function room.depth (KX _ _ lk) rfl S.co S.gen rfl (PySem.W.codeRec_of KX code) (binds _ _ _ _ ?_)
  refine wpAny_newFunctionEnv_cells S.kind kinds fun env he s1 x => ?_
  subst he
  refine ⟨lim.keeps x.toInCall.keep, codeAny_func ?_⟩
  obtain ⟨t, ht, hq⟩ := hbody A outer s H vs Q E p hot zc (room.deeper _) hyp
  have J : Inv (L2H.cxH CX P w K mg base N qual scope f cdv A outer s H E p) [] (L2.start N vs) H s1 := L2H.inv_startH S pinOk env0 many rel x
  refine wpAny_mono (ht.run [] s1 (L2.start N vs) H _ J hq) (fun fl s' hs => ?_) fun e s' hs => hs
  have fin : ∀ {σ' : L2.St} {H' : Hp} {v : V} {u : Value}, Inv (L2H.cxH CX P w K mg base N qual scope f cdv A outer s H E p) [] σ' H' s' → RelV v u → Q v H' → CE outer P w H s Q u s' :=
    fun {σ' H' v u} J' rv q => ⟨v, H', J'.os, J'.bare, J'.base, J'.hok, rv, q⟩
  cases fl with
  | ret u =>
    obtain ⟨v, σ', H', J', rv, q⟩ := hs
    exact fin J' rv q
  | next =>
    obtain ⟨σ', H', J', q⟩ := hs
    exact fin (v := V.non) (u := Value.none) J' rfl q
  | brk =>
    obtain ⟨_, _, _, q⟩ := hs
    exact False.elim q
  | cont =>
    obtain ⟨_, _, _, q⟩ := hs
    exact False.elim q
/-- the context bears the handled exception, at a, of the class D -/
def HotP (X : Cx) (a D : Addr) : Prop := ∃ p : Addr × Obj, p.1 = a ∧ L2H.Hot1 X.A p ∧ p ∈ X.pn ∧ Zc (.ref D) none p.2
theorem HotP.hot {X : Cx} {a D : Addr} (h : HotP X a D) : L2H.HotC X := by
  obtain ⟨p, _, h1, h2, _⟩ := h
  exact ⟨p, h1, h2⟩
section
variable {X : Cx} {CX : CXT} {k : Nat} {D f a : Addr} {fd : FuncData} {ps : List Str} {sp : Addr → Sp} {E : L2.St → XK} {x : Str} {q pos : Pos} {e : Expr} {es : List Expr} {t : TA}
theorem run_fnP {pins : List (Addr × Obj)} {σ : L2.St} {H : Hp} {s : Shared} {Q : VK} {us : List Value} {vs : List V} (F : FnP X.prog X.w X.K X.mg X.base CX k D f fd ps sp) (hr : L2H.RoomH k X.A) (hc : HotP X a D) (hb : Binds X.K fd ps []) (hx : PassesAt CX X σ (E σ))
    (I : Inv X pins σ H s) (r : Vals vs us) (h : sp a vs H Q (E σ)) : wpAny (model X.prog X.w) X.A (call (.ref f) us) (EP X pins σ Q) X.xe s := by
  obtain ⟨p, rfl, hot, hp, zc⟩ := hc
  have many : us.length = ps.length := by rw [← r.length]; exact F.len _ _ _ _ _ h
  have b := hb s us I.kIn (by rw [List.append_nil]; exact many)
  rw [List.append_nil] at b
  have P1 := I.pin p (List.mem_append_left _ hp)
  have pinOk : L2H.PinOk X.stack H s p := ⟨P1.1, P1.2.1, fun mm => (List.mem_cons.mp (I.stkSub p.1 mm)).elim P1.2.2.1 P1.2.2.2.1, P1.2.2.2.2⟩
  refine wpAny_call (codeAny_mono (F.run X.A X.stack s H ⟨us, []⟩ us vs Q (E σ) p hr hot zc pinOk I.env0 b r h) fun r s' hq => ?_)
  cases r with
  | error e => exact hx pins H s e s' I hq
  | ok fl =>
    cases fl with
    | ret u => exact I.after hq
    | next => exact False.elim hq
    | brk => exact False.elim hq
    | cont => exact False.elim hq
end
structure CalP (P : Program) (w : World) (K : PySem.W.Frag) (mg : Str → Option Value) (base : Heap) (k : Nat) (D : Addr) (x : Str) (sp : Addr → Sp) : Prop where
  ex : ∃ (f : Addr) (fd : FuncData) (ps : List Str), FnP P w K mg base (L2.CX P w) k D f fd ps sp ∧ mg x = some (.ref f) ∧ PySem.W.keepIn K (.ref f) = true ∧ Binds K fd ps []
theorem FnP.mono {P : Program} {w : World} {K : PySem.W.Frag} {mg : Str → Option Value} {base : Heap} {CX : CXT} {j k : Nat} {D f : Addr} {fd : FuncData} {ps : List Str} {sp : Addr → Sp} (F : FnP P w K mg base CX j D f fd ps sp) (h : j ≤ k) : FnP P w K mg base CX k D f fd ps sp :=
  ⟨F.len, fun A outer s H args us vs Q E p hr => F.run A outer s H args us vs Q E p (hr.mono h)⟩
theorem cal_ofP {P : Program} {w : World} {K : PySem.W.Frag} {mg : Str → Option Value} {base : Heap} {x : Str} {st : Stmt} {D f : Addr} {fd : FuncData} {N ps : List Str} {k : Nat} {sp : Addr → Sp} (F : DefF K mg x st ps f fd) (S : FnScope N ps (defScope st)) (len : ∀ a vs H Q E, sp a vs H Q E → vs.length = ps.length)
    (hbody : ∀ (cdv : Value) (A : Around) (outer : List Env) (s : Shared) (H : Hp) (vs : List V) (Q : VK) (E : XK) (p : Addr × Obj), L2H.Hot1 A p → Zc (.ref D) none p.2 → L2H.RoomH k (A.deeper (envOfC x (defScope st) s.heap.objs.size f cdv)) → sp p.1 vs H Q E →
      ∃ t, PSs (L2H.cxH (L2.CX P w) P w K mg base N x (defScope st) f cdv A outer s H E p).nox (defBody st) t ∧ t { nx := fun _ H' => Q .non H', rt := Q } (start N vs) H) : CalP P w K mg base (k + 1) D x sp := by
  obtain ⟨oc, od, kV, doc, pm, an, cdv, ct, osl, rfl, lk, hcd⟩ := F.fn.ex
  exact ⟨f, _, ps, fn_ofP lk hcd S len fun A outer s H vs Q E p hot zc hr h => let ⟨t, h1, h2⟩ := hbody cdv A outer s H vs Q E p hot zc hr h; ⟨t, h1.nox, h2⟩, F.mgf, F.fn.kp, F.bi⟩
section
variable {X : Cx} {k j : Nat} {D a : Addr} {x : Str} {sp : Addr → Sp} {p pos : Pos} {e : Expr} {es : List Expr} {t : TA}
theorem pe_ccP (c : CalP X.prog X.w X.K X.mg X.base k D x sp) (hr : L2H.RoomH j X.A) (hk : k ≤ j) (hc : HotP X a D) (hg : Gl X x) (ha : PA X (e :: es) t)
    (hdb : (x == ("__debug__" : Str)) = false := by decide) (hst : starEach (e :: es) X.env = (false, eval e X.env) :: starEach es X.env := by rfl) (hpl : (backTo pos (starEach es X.env)).any (·.1) = false := by rfl) :
    PE X (.Call (.Name x p) (e :: es) [] pos) (tCallS (sp a) (fun _ => E0) t) := by
  obtain ⟨f, fd, ps, F, hm, kp, b⟩ := c.ex
  refine ⟨fun pins s σ H Q I hyp => ?_⟩
  refine wpAny_Call_Name_kw (ld_glob I hg hm ?_ hdb)
  refine PySem.W.callWith_K (h₀ := X.base) I.ok.mod.kin kp (thn (ha.run pos pins s σ H _ I hyp) fun us s1 ⟨vs, H1, I1, r, q⟩ => ⟨I1.kIn, ?_⟩) hst hpl
  exact run_fnP (E := fun _ => E0) (F.mono hk) hr hc b (fun pins' H' s' u s2 I' h' => by
    obtain ⟨_, _, _, _, _, _, _, _, _, _, _, _, z⟩ := h'
    exact z.elim) I1 r q
/-- isinstance of the handled exception -/
theorem k_isP {K : PySem.W.Frag} (h : X.K = K) (C : ExcC K D) (hc : HotP X a D) : CallR X (.builtin "isinstance") (rIsE K D a) := by
  subst h
  intro pins s σ H xs us Q I r hyp
  obtain ⟨c, cv, b, rfl, hcv, e, q⟩ := hyp
  obtain ⟨p, rfl, ⟨_, vs, hv, _⟩, hp, zc⟩ := hc
  cases r with
  | cons rx rr =>
    cases rr with
    | cons rt rr =>
      cases rr
      cases rx
      obtain rfl := hcv _ rt
      obtain ⟨od, J⟩ := inst_xd I (I.pin p (List.mem_append_left _ hp)).1 zc hv (.inl rfl)
      exact PySem.W.kia_one (kit_excC C) I.kIn J e (fun z => nomatch z) fun tk => ⟨.bl b, H, I.kept (t' := tk) fun _ _ z => z, rfl, q⟩
end
theorem hotP_suite {X : Cx} {a D : Addr} {oe : Obj} {cls : Value} {d : Option Addr} {pn : List (Addr × Obj)} (h : cls = .ref D ∧ d = none) (hz : L2N.Zn cls d oe) (hf : ∃ vs, oe.data = .fields vs) : HotP (X.suite a ((a, oe) :: pn)) a D := by
  obtain ⟨rfl, rfl⟩ := h
  obtain ⟨vs, e⟩ := hf
  exact ⟨(a, oe), rfl, ⟨rfl, vs, e, hz.2.2 vs e⟩, List.mem_cons_self, hz.zc⟩
theorem pss_under {X : Cx} {A : Prop} {b : List Stmt} {t : TS} (h : A → PSs X b t) : PSs X b (fun D σ H => A ∧ t D σ H) := ⟨fun pins s σ H D I q => (h q.1).run pins s σ H D I q.2⟩
end My
namespace My
open PySem PySem.Spec PyProof.Rows L2
section
variable {X : Cx}
/-- X() raised, an own class without own __init__, nothing in the air -/
theorem pmk_own0N {C : Addr} {bmB : List Value} {B newId initId : String} {x : Str} {p pos : Pos} (F : ExcBaseFacts B newId initId bmB) (q : PySem.W.excIn X.K C bmB newId = true) (gC : X.mg x = some (.ref C)) (kC : PySem.W.keepIn X.K (.ref C) = true) (r : Raises X (.ref C)) (hg : Gl X x)
    (hdb : (x == ("__debug__" : Str)) = false := by decide) : L2N.PMk X (.Call (.Name x p) [] [] pos) (fun _ H Q => Q (.ref C) none H) := by
  intro pins s0 σ H Q0 I hyp
  refine wpAny_Call_Name_kw (ld_glob I hg gC ?_ hdb)
  refine PySem.W.callWith_K0 I.kIn kC ?_
  show wpAny _ _ (call (.ref C) []) _ _ _
  obtain ⟨bm, N, nm, qn, bs, hdct, sn, sub, ab, col, dd, k0, k1, k2, k3, k5, mN, hC, hN, hni, T⟩ := exc_obj I.kIn q
  refine wpAny_call_exc_subT F T hC hN hni (fun hq e made => ?_) (Nat.zero_le _)
  exact L2N.mk_of I made r hyp (I.hok.gone made.new)
end
/-- a def whose last defaults dvs are not written -/
structure CalD (P : Program) (w : World) (K : PySem.W.Frag) (mg : Str → Option Value) (base : Heap) (k : Nat) (x : Str) (dvs : List V) (sp : Sp) : Prop where
  ex : ∃ (f : Addr) (fd : FuncData) (ps : List Str) (ds : List Value), FnOk P w K mg base (L2N.CX P w) k f fd ps sp ∧ mg x = some (.ref f) ∧ PySem.W.keepIn K (.ref f) = true ∧ Binds K fd ps ds ∧ Vals dvs ds
section
variable {X : Cx} {k j : Nat} {x : Str} {sp : Sp} {dvs : List V} {p pos : Pos} {e : Expr} {es : List Expr} {t : TA}
theorem pe_ccD (c : CalD X.prog X.w X.K X.mg X.base k x dvs sp) (hr : Room j X.A) (hk : k ≤ j) (hg : Gl X x) (ha : PA X (e :: es) t)
    (hdb : (x == ("__debug__" : Str)) = false := by decide) (hst : starEach (e :: es) X.env = (false, eval e X.env) :: starEach es X.env := by rfl) (hpl : (backTo pos (starEach es X.env)).any (·.1) = false := by rfl) :
    PE X (.Call (.Name x p) (e :: es) [] pos) (tCall sp dvs E0 t) := by
  obtain ⟨f, fd, ps, ds, F, hm, kp, b, v⟩ := c.ex
  exact pe_call F (hr.mono hk) hg hm kp b v passLN ha hdb hst hpl
end
end My
/-! the classes of errors: who is a kind of whom -/
namespace My
open PySem PySem.Spec PyProof.Rows L2
/-- a class that stands right under E, which stands right under ValueError -/
def ClsM (K : PySem.W.Frag) (E A : Addr) : Prop := ∃ cd, PySem.W.clsIn K A = some cd ∧ cd.mro = [.ref A, .ref E, .type "ValueError", .type "Exception", .type "BaseException", .type "object"]
section
variable {K : PySem.W.Frag} {E A C D : Addr} {mg : Str → Option Value} {as : List Addr} {n i : Nat}
theorem clsM_of {nm q : Str} {N : Addr} {bs : List Value} {sn : List Str} {sub : List Value} {ab : Bool} {col : Option Bool} {dd : Option Addr} {k0 k1 k2 k3 k5 : Option Value} {newId : String} {hd : Bool}
    (h : K.lookup A = some (excClassObj nm q A N bs [.ref E, .type "ValueError", .type "Exception", .type "BaseException", .type "object"] hd sn sub ab col dd k0 k1 k2 k3 k5 newId)) : ClsM K E A := by
  unfold ClsM PySem.W.clsIn
  rw [h]
  exact ⟨_, rfl, rfl⟩
theorem ClsM.sub (m : ClsM K E D) (c : Value) : PySem.W.subIn K (.ref D) c = some ([Value.ref D, .ref E, .type "ValueError", .type "Exception", .type "BaseException", .type "object"].contains c) := by
  obtain ⟨cd, h, e⟩ := m
  show PySem.W.mroIn K D c = _
  unfold PySem.W.mroIn
  rw [h]
  show (if cd.mro.isEmpty = true then none else some (cd.mro.contains c)) = _
  rw [e]
  rfl
theorem ClsM.isSome (m : ClsM K E D) : (PySem.W.clsIn K D).isSome = true := by
  obtain ⟨cd, h, _⟩ := m
  rw [h]
  rfl
theorem kit_cls_ref (m : ClsM K E D) (s : (PySem.W.clsIn K C).isSome = true) (t : PySem.W.typeIn K (.ref C) = some (.type "type")) : PySem.W.kitOne K (.ref D) (.ref C) = some (decide (C = D ∨ C = E)) := by
  unfold PySem.W.kitOne
  by_cases h : D = C
  · subst h
    rw [if_pos (beq_self_eq_true _), decide_eq_true (.inl rfl)]
  · rw [if_neg (fun z => h (by have := eq_of_beq z; injection this))]
    show (if ((PySem.W.clsIn K C).isSome && PySem.W.typeIn K (.ref C) == some (.type "type")) = true then PySem.W.subIn K (.ref D) (.ref C) else none) = _
    rw [s, t]
    show (if (true && (some (Value.type "type") == some (Value.type "type"))) = true then PySem.W.subIn K (.ref D) (.ref C) else none) = _
    rw [if_pos (by simp), m.sub]
    congr 1
    rw [Bool.eq_iff_iff, List.contains_iff_mem, decide_eq_true_iff]
    simp
theorem kit_cls_ve (m : ClsM K E D) : PySem.W.kitOne K (.ref D) (.type "ValueError") = some true := by
  unfold PySem.W.kitOne
  rw [if_neg (fun z => by cases eq_of_beq z)]
  show (if PySem.W.kitMeta "ValueError" = true then PySem.W.subIn K (.ref D) (.type "ValueError") else none) = _
  rw [if_pos (by decide +kernel), m.sub]
  congr 1
def errNames : List Str := ["DivisionByZero", "ZeroPolynomial", "HasQuantifier", "NotOneUnknown", "NothingToUndo", "InvalidPoly", "InvalidStretch", "InvalidText", "InvalidUnknown", "NoUnknown", "HasFree", "Reducible", "NoRoot", "InvalidCode", "TooDeep", "TooLarge", "InvalidPiece", "NoPiece", "InvalidSpot", "Vanishes", "NoCell", "InvalidLine", "InvalidSave", "InvalidName", "Missing", "Circular", "NotASentence"]
/-- the classes of errors stand at the addresses as, their base at E -/
structure ErrT (K : PySem.W.Frag) (mg : Str → Option Value) (E : Addr) (as : List Addr) : Prop where
  g : ∀ {i : Nat} {x : Str} {a : Addr}, errNames[i]? = some x → as[i]? = some a → mg x = some (.ref a)
  gE : mg "CellspireError" = some (.ref E)
  m : ∀ {i : Nat} {a : Addr}, as[i]? = some a → ClsM K E a
  t : ∀ {i : Nat} {a : Addr}, as[i]? = some a → PySem.W.typeIn K (.ref a) = some (.type "type")
  x : ∀ {i : Nat} {a : Addr}, as[i]? = some a → ExcC K a
  nd : as.Nodup
  ne : E ∉ as
  sE : (PySem.W.clsIn K E).isSome = true
  tE : PySem.W.typeIn K (.ref E) = some (.type "type")
theorem ErrT.kit (h : ErrT K mg E as) (hn : as[n]? = some D) (hi : as[i]? = some C) : PySem.W.kitOne K (.ref D) (.ref C) = some (decide (i = n)) := by
  rw [kit_cls_ref (h.m hn) (h.m hi).isSome (h.t hi)]
  congr 1
  rw [decide_eq_decide]
  have hl : i < as.length := (List.getElem?_eq_some_iff.mp hi).1
  refine ⟨fun z => ?_, fun z => ?_⟩
  · rcases z with z | z
    · exact (List.getElem?_inj hl h.nd).mp (by rw [hi, hn, z])
    · exact absurd (List.mem_of_getElem? hi) (by rw [z]; exact h.ne)
  · subst z
    rw [hi] at hn
    exact .inl (Option.some.inj hn)
theorem ErrT.kitE (h : ErrT K mg E as) (hn : as[n]? = some D) : PySem.W.kitOne K (.ref D) (.ref E) = some true := by
  rw [kit_cls_ref (h.m hn) h.sE h.tE, decide_eq_true (.inr rfl)]
theorem ErrT.kitV (h : ErrT K mg E as) (hn : as[n]? = some D) : PySem.W.kitOne K (.ref D) (.type "ValueError") = some true := kit_cls_ve (h.m hn)
variable {H : Hp} {Q : VK} {a : Addr}
theorem w_isV (h : ErrT K mg E as) (hn : as[n]? = some D) (v : Exv H a D) (hi : as[i]? = some C) (q : Q (.bl (decide (i = n))) H) : rIsV K [.ref a, .ref C] H Q := ⟨a, D, .ref C, .ref C, _, rfl, v, h.x hn, fun u r => r, h.kit hn hi, q⟩
theorem w_isVE (h : ErrT K mg E as) (hn : as[n]? = some D) (v : Exv H a D) (q : Q (.bl true) H) : rIsV K [.ref a, .ref E] H Q := ⟨a, D, .ref E, .ref E, _, rfl, v, h.x hn, fun u r => r, h.kitE hn, q⟩
theorem w_isVV (h : ErrT K mg E as) (hn : as[n]? = some D) (v : Exv H a D) (q : Q (.bl true) H) : rIsV K [.ref a, .ty "ValueError"] H Q := ⟨a, D, .ty "ValueError", .type "ValueError", _, rfl, v, h.x hn, fun u r => r, h.kitV hn, q⟩
theorem w_isP (h : ErrT K mg E as) (hn : as[n]? = some D) (hi : as[i]? = some C) (q : Q (.bl (decide (i = n))) H) : rIsE K D a [.ref a, .ref C] H Q := ⟨.ref C, .ref C, _, rfl, fun u r => r, h.kit hn hi, q⟩
theorem w_isPE (h : ErrT K mg E as) (hn : as[n]? = some D) (q : Q (.bl true) H) : rIsE K D a [.ref a, .ref E] H Q := ⟨.ref E, .ref E, _, rfl, fun u r => r, h.kitE hn, q⟩
theorem w_isPV (h : ErrT K mg E as) (hn : as[n]? = some D) (q : Q (.bl true) H) : rIsE K D a [.ref a, .ty "ValueError"] H Q := ⟨.ty "ValueError", .type "ValueError", _, rfl, fun u r => r, h.kitV hn, q⟩
theorem w_neB {b c : Bool} (q : Q (.bl (!decide (b = c))) H) : rNe (.bl b) (.bl c) H Q := ⟨rfl, by
  have e : decide (V.bl b = V.bl c) = decide (b = c) := by
    by_cases z : b = c
    · subst z
      rw [decide_eq_true rfl, decide_eq_true rfl]
    · rw [decide_eq_false z, decide_eq_false fun y => z (V.bl.inj y)]
  rw [e]
  exact q⟩
end
section
variable {X : Cx} {k j : Nat} {x : Str} {sp : Sp} {p pos : Pos}
/-- f() -/
theorem pe_cc0 (c : Cal X.prog X.w X.K X.mg X.base k x sp) (hr : Room j X.A) (hk : k ≤ j) (hg : Gl X x) (hdb : (x == ("__debug__" : Str)) = false := by decide) : PE X (.Call (.Name x p) [] [] pos) (tCall sp [] E0 tNil) := by
  obtain ⟨f, fd, ps, F, hm, kp, b⟩ := c.ex
  exact pe_call0 F (hr.mono hk) hg hm kp b .nil passL hdb
/-- X(), an own class without own __init__, as a value -/
def tExc0 (C : Addr) : TE := fun _ H Q => ∀ a, H a = none → Q (.ref a) (upd H a (ExO (.ref C) a))
theorem pe_exc0t {C : Addr} {bmB : List Value} {B newId initId : String} (F : ExcBaseFacts B newId initId bmB) (q : PySem.W.excIn X.K C bmB newId = true) (gC : X.mg x = some (.ref C)) (kC : PySem.W.keepIn X.K (.ref C) = true) (hg : Gl X x)
    (hdb : (x == ("__debug__" : Str)) = false := by decide) : PE X (.Call (.Name x p) [] [] pos) (tExc0 C) := pe_exc0 F q gC kC hg hdb
theorem exv_new {C : Addr} {σ : L2.St} {H : Hp} {Q : VK} (h : ∀ a H', Ch [] H H' → Exv H' a C → Q (.ref a) H') : tExc0 C σ H Q := fun a na => h a _ (Ch.new na) (.inl upd_same)
end
end My
/-! the head read by a Hook: defs, names, classes of errors -/
namespace My
open PySem PySem.Spec PyProof.Rows L2
section
variable {K : PySem.W.Frag} {h : Heap} {mg : Str → Option Value} {f : Addr} {fd : FuncData}
theorem fun_of {x q : Str} {st : Stmt} (F : FunD K x q (defArgs st) (defBody st) (defScope st) [] [] f fd) : Fun K x q st f fd := by
  obtain ⟨oc, od, dV, kV, doc, pm, an, cdv, ct, osl, e, lk, hcd, hD, hK⟩ := F.ex
  rcases hD with ⟨_, rfl⟩ | ⟨e, _⟩
  · exact ⟨⟨oc, od, kV, doc, pm, an, cdv, ct, osl, e, lk, hcd⟩, F.kp⟩
  · exact absurd rfl e
theorem defF_of {x : Str} {st : Stmt} {ps : List Str} (X : K.In h) (G : h.Ns mainGlobals mg) (g : (He.Fa.glo x).ok K = true) (F : ∃ fd, FunD K x x (defArgs st) (defBody st) (defScope st) [] [] (He.fAd K (x, none)) fd)
    (b : ∀ (kV doc pm : Value) (an : Option Addr) (cdv ct : Value) (us : List Value), us.length = ps.length → bindArgs (PySem.W.fnOf x x (defArgs st) (defBody st) (defScope st) .none kV doc pm an cdv ct) ⟨us, []⟩ = pure (ps.zip us)) :
    ∃ f fd, DefF K mg x st ps f fd ∧ (∀ (s : Shared) (us : List Value), us.length = ps.length → BindsTo s fd ⟨us, []⟩ (ps.zip us)) := by
  obtain ⟨fd, F⟩ := F
  exact ⟨_, fd, ⟨fun_of F, He.glo_ok X G g, F.bindsN b⟩, fun s us hl => F.bindsA b s us hl⟩
/-! ### the classes of errors -/
structure BaseE (K : PySem.W.Frag) (mg : Str → Option Value) (E : Addr) : Prop where
  g : mg "CellspireError" = some (.ref E)
  s : (PySem.W.clsIn K E).isSome = true
  t : PySem.W.typeIn K (.ref E) = some (.type "type")
structure KindE (K : PySem.W.Frag) (mg : Str → Option Value) (E : Addr) (x : Str) (A : Addr) : Prop where
  g : mg x = some (.ref A)
  l : ∃ nm q N bs sn sub ab col dd k0 k1 k2 k3 k5, K.lookup A = some (excClassObj nm q A N bs [.ref E, .type "ValueError", .type "Exception", .type "BaseException", .type "object"] true sn sub ab col dd k0 k1 k2 k3 k5 "ValueError.__new__")
  t : PySem.W.typeIn K (.ref A) = some (.type "type")
  x : ExcC K A
structure OwnI (K : PySem.W.Frag) (q : Str) (C : Addr) (st : Stmt) (ps : List Str) : Prop where
  T : OexC K C
  ex : ∃ (fI : Addr) (fd : FuncData), PySem.W.findIn K (.ref C) "__init__" = some (some (.ref fI)) ∧ PySem.W.typeIn K (.ref fI) = some (.type "function") ∧ Fun K "__init__" q st fI fd ∧ Binds K fd ps []
variable {E A : Addr} {x : Str}
theorem KindE.m (k : KindE K mg E x A) : ClsM K E A := by
  obtain ⟨nm, q, N, bs, sn, sub, ab, col, dd, k0, k1, k2, k3, k5, l⟩ := k.l
  exact clsM_of l
theorem KindE.exm (k : KindE K mg E x A) : PySem.W.exmOne K (.ref A) (.ref A) = some true := PySem.W.exm_ref k.x.hs k.x.hd k.t (by rw [k.m.sub]; congr 1; rw [List.contains_iff_mem]; simp)
theorem KindE.kit {B : Addr} {y : Str} (k : KindE K mg E x A) (l : KindE K mg E y B) (n : B ≠ A) (ne : B ≠ E) : PySem.W.kitOne K (.ref A) (.ref B) = some false := by
  rw [kit_cls_ref k.m l.m.isSome l.t, decide_eq_false (fun z => z.elim n ne)]
theorem KindE.kitE (k : KindE K mg E x A) (b : BaseE K mg E) : PySem.W.kitOne K (.ref A) (.ref E) = some true := by
  rw [kit_cls_ref k.m b.s b.t, decide_eq_true (.inr rfl)]
theorem KindE.kitV (k : KindE K mg E x A) : PySem.W.kitOne K (.ref A) (.type "ValueError") = some true := kit_cls_ve k.m
/-! ### .. looked at -/
theorem baseB_ok (X : K.In h) (G : h.Ns mainGlobals mg) (c : baseB K = true) : BaseE K mg (gE K) := by
  obtain ⟨c1, c2⟩ := He.ba c
  obtain ⟨c3, c4⟩ := He.ba c2
  exact ⟨He.glo_ok X G c1, c3, of_decide_eq_true c4⟩
theorem slB_ok {l : List (Option Value)} (h : slB l = true) : ∃ k0 k1 k2 k3 k5, l = [k0, k1, k2, k3, some (.builtin "ValueError.__new__"), k5] := by
  unfold slB at h
  split at h
  · rename_i a b c d n e
    have := of_decide_eq_true h
    subst this
    exact ⟨_, _, _, _, _, rfl⟩
  · cases h
theorem clsB_ok {C E : Addr} {o : Obj} (c : clsB C E o = true) : ∃ nm q N bs sn sub ab col dd k0 k1 k2 k3 k5, o = excClassObj nm q C N bs [.ref E, .type "ValueError", .type "Exception", .type "BaseException", .type "object"] true sn sub ab col dd k0 k1 k2 k3 k5 "ValueError.__new__" := by
  obtain ⟨oc, od, dt, osl⟩ := o
  cases oc with
  | type t =>
    cases dt with
    | cls cd =>
      obtain ⟨nm, bs, mro, N, q, hd, sn, sub, ab, col, del⟩ := cd
      obtain ⟨l⟩ := osl
      obtain ⟨c1, c2⟩ := He.ba (show (decide (t = "type") && (decide (mro = [.ref C, .ref E, .type "ValueError", .type "Exception", .type "BaseException", .type "object"]) && (hd && (!del && slB l)))) = true from c)
      obtain ⟨c3, c4⟩ := He.ba c2
      obtain ⟨c5, c6⟩ := He.ba c4
      obtain ⟨c7, c8⟩ := He.ba c6
      have e1 := of_decide_eq_true c1
      have e2 := of_decide_eq_true c3
      have e3 : del = false := by simpa using c7
      subst e1 e2 c5 e3
      obtain ⟨k0, k1, k2, k3, k5, e4⟩ := slB_ok c8
      subst e4
      exact ⟨nm, q, N, bs, sn, sub, ab, col, od, k0, k1, k2, k3, k5, rfl⟩
    | _ => cases c
  | _ => cases dt <;> cases c
theorem kindB_ok (X : K.In h) (G : h.Ns mainGlobals mg) (c : kindB K x = true) : KindE K mg (gE K) x (He.ga K x) := by
  obtain ⟨c1, c⟩ := He.ba c
  obtain ⟨c2, c⟩ := He.ba c
  obtain ⟨c3, c⟩ := He.ba c
  obtain ⟨c4, c⟩ := He.ba c
  obtain ⟨c5, c⟩ := He.ba c
  obtain ⟨c6, c⟩ := He.ba c
  obtain ⟨c7, c⟩ := He.ba c
  obtain ⟨c8, c⟩ := He.ba c
  obtain ⟨c9, c⟩ := He.ba c
  obtain ⟨ca, cb⟩ := He.ba c
  refine ⟨He.glo_ok X G c1, ?_, of_decide_eq_true c3, ⟨He.eqO_ok c4, He.eqO_ok c5, of_decide_eq_true c6, c7, He.eqO_ok c8, He.eqO_ok c9, of_decide_eq_true ca, of_decide_eq_true cb⟩⟩
  cases e : K.lookup (He.ga K x) with
  | none =>
    rw [e] at c2
    cases c2
  | some o =>
    rw [e] at c2
    obtain ⟨nm, q, N, bs, sn, sub, ab, col, dd, k0, k1, k2, k3, k5, eo⟩ := clsB_ok c2
    exact ⟨nm, q, N, bs, sn, sub, ab, col, dd, k0, k1, k2, k3, k5, by rw [eo]⟩
theorem excB_ok (k : KindE K mg E x (He.ga K x)) (c : excB K x = true) : ExcF K mg x (He.ga K x) := by
  obtain ⟨c1, c2⟩ := He.ba c
  exact ⟨c1, k.g, c2, k.x.hs, k.t⟩
theorem ownB_ok {q : Str} {st : Stmt} {ps : List Str} (k : KindE K mg E x (He.ga K x)) (c : ownB K x = true) (F : ∃ fd, FunD K "__init__" q (defArgs st) (defBody st) (defScope st) [] [] (He.fAd K (x, some "__init__")) fd)
    (b : ∀ (kV doc pm : Value) (an : Option Addr) (cdv ct : Value) (us : List Value), us.length = ps.length → bindArgs (PySem.W.fnOf "__init__" q (defArgs st) (defBody st) (defScope st) .none kV doc pm an cdv ct) ⟨us, []⟩ = pure (ps.zip us)) : OwnI K q (He.ga K x) st ps := by
  obtain ⟨c1, c⟩ := He.ba c
  obtain ⟨c2, c⟩ := He.ba c
  obtain ⟨c3, c4⟩ := He.ba c
  obtain ⟨fd, F⟩ := F
  obtain ⟨nm, q', N, bs, sn, sub, ab, col, dd, k0, k1', k2, k3, k5, l⟩ := k.l
  exact ⟨⟨⟨nm, q', N, bs, _, sn, sub, ab, col, dd, k0, k1', k2, k3, k5, l, rfl⟩, He.eqO_ok c1, k.x.hs, k.t, c2⟩, _, fd, He.eqO_ok c3, of_decide_eq_true c4, fun_of F, F.bindsN b⟩
theorem noat_ok {f : Str} (c : (He.Fa.noat x f).ok K = true) : PySem.W.findIn K (.ref (He.ga K x)) f = some none := He.eqO_ok c
theorem bltB_ok {n : String} (X : K.In h) (G : h.Ns mainGlobals mg) (c : bltB K x n = true) : mg x = some (.builtin n) := PySem.W.mg_of X G (He.eqO_ok c)
theorem all_at {α : Type} {p : α → Bool} {l : List α} (h : l.all p = true) (i : Nat) {a : α} (e : l[i]? = some a := by rfl) : p a = true := List.all_eq_true.mp h a (List.mem_of_getElem? e)
end
inductive AllE (K : PySem.W.Frag) (mg : Str → Option Value) (E : Addr) : List Str → List Addr → Prop
  | nil : AllE K mg E [] []
  | cons {x : Str} {A : Addr} {xs : List Str} {as : List Addr} (k : KindE K mg E x A) (r : AllE K mg E xs as) : AllE K mg E (x :: xs) (A :: as)
section
variable {K : PySem.W.Frag} {h : Heap} {mg : Str → Option Value} {E : Addr}
theorem AllE.at1 {xs : List Str} {as : List Addr} (a : AllE K mg E xs as) : ∀ {i : Nat} {A : Addr}, as[i]? = some A → ∃ x, xs[i]? = some x ∧ KindE K mg E x A := by
  induction a with
  | nil => intro i A e; cases e
  | cons k r ih =>
    intro i A e
    cases i with
    | zero =>
      cases e
      exact ⟨_, rfl, k⟩
    | succ i => exact ih e
theorem errT_of {as : List Addr} (b : BaseE K mg E) (a : AllE K mg E errNames as) (nd : as.Nodup) (ne : E ∉ as) : ErrT K mg E as where
  g := fun hx ha => by
    obtain ⟨y, hy, k⟩ := a.at1 ha
    rw [hx] at hy
    cases hy
    exact k.g
  gE := b.g
  m := fun ha => (a.at1 ha).elim fun _ h => h.2.m
  t := fun ha => (a.at1 ha).elim fun _ h => h.2.t
  x := fun ha => (a.at1 ha).elim fun _ h => h.2.x
  nd := nd
  ne := ne
  sE := b.s
  tE := b.t
end
/-- a law's end: the written part, the def and its promise told world by world -/
theorem walk_own {l : PySem.W.OpenLaw} {n k : Nat} {q : Program} {loose : List Str} {XP : (Str → Option Value) → Heap → Prop} {YP : World → Heap → Prop} {d : DefRec} {CX : World → CXT} {x : Str}
    (n1 : l.most = some n) (n2 : n ≤ sizeLine) (nd : d.params.defaults = []) (room : Room k callerA)
    (tell : ∀ (w : World) (mg : Str → Option Value) (fa : Addr) (h : Heap), YP w h → h.Ns mainGlobals mg → mg d.name = some (.ref fa) → ∃ (K : PySem.W.Frag) (fd : FuncData) (sp : Sp), K.In h ∧
      (∀ (s : Shared) (u : Value), BindsTo s fd ⟨[u], []⟩ [(x, u)]) ∧ (∀ (H : Hp) (a : Addr) (ns : List Int), ns.length ≤ n → Only H → SqL K H a (ns.map V.int) → sp [.ref a] H (fun v _ => v = .bl true) fun _ _ _ => False) ∧
      ∀ base : Heap, K.In base → base.Ns mainGlobals mg → FnOk l.prog w K mg base (CX w) k fa fd [x] sp)
    (none_ : ∀ (w : World) (H : Hp) (s : Shared) (e : Value) (s' : Shared), CX w [] H s (fun _ _ _ => False) e s' → False) : PySem.W.WalkO q loose XP YP l.row.toRowW d [] (fun f vs => PySem.call f vs) := by
  refine Att.attach_call n1 nd fun w s0 s1 mg mb fa o pm cd doc a vs ns G Y u1 u2 u3 u4 u5 u6 u7 u8 => ?_
  obtain ⟨K, fd, sp, KX, b, p, F⟩ := tell w mg fa _ Y G.T.g u4
  exact law_call KX G.T.g G.T.b G.T.builtins G.T.nolimit u8 u5 u6 (Nat.le_trans u7 n2) room F b (fun H o1 o2 => p H a ns u7 o1 o2) fun H e s' => none_ w H s1 e s'
theorem not_in {a : Addr} {l : List Addr} (h : (!l.contains a) = true) : a ∉ l := fun z => by
  rw [List.contains_iff_mem.mpr z] at h
  cases h
end My
/-! rows as plain lists of ints -/
namespace My
def coef (p : List Int) (i : Nat) : Int := p.getD i 0
theorem coef_nil (i : Nat) : coef [] i = 0 := by simp [coef]
theorem coef_cons_zero (a : Int) (p : List Int) : coef (a :: p) 0 = a := by simp [coef]
theorem coef_cons_succ (a : Int) (p : List Int) (i : Nat) : coef (a :: p) (i + 1) = coef p i := by simp [coef]
theorem coef_ge {p : List Int} {i : Nat} (h : p.length ≤ i) : coef p i = 0 := by
  simp [coef, List.getD, List.getElem?_eq_none h]
theorem coef_lt {p : List Int} {i : Nat} (h : i < p.length) : coef p i = p[i] := by
  simp [coef, h]
theorem coef_get {p : List Int} {i : Nat} {x : Int} (h : p[i]? = some x) : coef p i = x := by
  simp [coef, List.getD, h]
theorem get_coef {p : List Int} {i : Nat} (h : i < p.length) : p[i]? = some (coef p i) := by
  rw [List.getElem?_eq_getElem h, coef_lt h]
theorem coef_mem {p : List Int} {i : Nat} (h : i < p.length) : coef p i ∈ p := by
  rw [coef_lt h]
  exact List.getElem_mem h
theorem coef_take (p : List Int) (n i : Nat) : coef (p.take n) i = if i < n then coef p i else 0 := by
  unfold coef
  simp only [List.getD_eq_getElem?_getD, List.getElem?_take]
  split <;> simp
theorem coef_append (p q : List Int) (i : Nat) : coef (p ++ q) i = if i < p.length then coef p i else coef q (i - p.length) := by
  unfold coef
  simp only [List.getD_eq_getElem?_getD]
  split
  · rename_i h
    rw [List.getElem?_append_left h]
  · rename_i h
    rw [List.getElem?_append_right (by omega)]
theorem coef_set {p : List Int} {j : Nat} (hj : j < p.length) (v : Int) (i : Nat) : coef (p.set j v) i = if i = j then v else coef p i := by
  unfold coef
  simp only [List.getD_eq_getElem?_getD, List.getElem?_set]
  by_cases h : j = i
  · subst h
    simp [hj]
  · rw [if_neg h, if_neg (fun e => h e.symm)]
theorem coef_map {f : Int → Int} (h0 : f 0 = 0) (p : List Int) (i : Nat) : coef (p.map f) i = f (coef p i) := by
  unfold coef
  simp only [List.getD_eq_getElem?_getD, List.getElem?_map]
  cases p[i]? with
  | none => simp [h0]
  | some x => simp
theorem coef_rep (n i : Nat) : coef (List.replicate n 0) i = 0 := by
  unfold coef
  simp only [List.getD_eq_getElem?_getD, List.getElem?_replicate]
  split <;> simp
theorem coef_range (f : Nat → Int) (n i : Nat) : coef ((List.range n).map f) i = if i < n then f i else 0 := by
  unfold coef
  simp only [List.getD_eq_getElem?_getD, List.getElem?_map]
  by_cases h : i < n
  · rw [if_pos h, List.getElem?_range h]
    rfl
  · rw [if_neg h, List.getElem?_eq_none (by rw [List.length_range]; omega)]
    rfl

/-! ### rows -/
def IsRow (p : List Int) : Prop := p.getLast? ≠ some 0
theorem isRow_nil : IsRow [] := by simp [IsRow]
theorem isRow_iff {p : List Int} : IsRow p ↔ (p = [] ∨ coef p (p.length - 1) ≠ 0) := by
  unfold IsRow coef
  rw [List.getLast?_eq_getElem?]
  by_cases h : p = []
  · subst h
    simp
  · have hl : p.length - 1 < p.length := by
      have := List.length_pos_iff.mpr h
      omega
    simp [List.getD, hl, h]
theorem row_ext : ∀ {p q : List Int}, IsRow p → IsRow q → (∀ i, coef p i = coef q i) → p = q := by
  intro p q hp hq h
  have hlen : p.length = q.length := by
    rcases Nat.lt_trichotomy p.length q.length with c | c | c
    · exfalso
      rcases isRow_iff.mp hq with e | e
      · subst e
        simp at c
      · apply e
        rw [← h, coef_ge (by omega)]
    · exact c
    · exfalso
      rcases isRow_iff.mp hp with e | e
      · subst e
        simp at c
      · apply e
        rw [h, coef_ge (by omega)]
  apply List.ext_getElem hlen
  intro i h1 h2
  rw [← coef_lt h1, ← coef_lt h2, h]
def trim : List Int → List Int
  | [] => []
  | a :: p => if a = 0 ∧ trim p = [] then [] else a :: trim p
theorem coef_trim : ∀ (p : List Int) (i : Nat), coef (trim p) i = coef p i
  | [], _ => rfl
  | a :: p, i => by
    unfold trim
    split
    · rename_i h
      cases i with
      | zero => rw [coef_nil, coef_cons_zero, h.1]
      | succ i =>
        rw [coef_cons_succ, ← coef_trim p i, h.2, coef_nil, coef_nil]
    · cases i with
      | zero => rw [coef_cons_zero, coef_cons_zero]
      | succ i => rw [coef_cons_succ, coef_cons_succ, coef_trim p i]
theorem trim_row : ∀ p : List Int, IsRow (trim p)
  | [] => isRow_nil
  | a :: p => by
    unfold trim
    split
    · exact isRow_nil
    · rename_i h
      have ih := trim_row p
      unfold IsRow at ih ⊢
      cases e : trim p with
      | nil =>
        rw [List.getLast?_singleton]
        intro z
        exact h ⟨Option.some.inj z, e⟩
      | cons b r =>
        rw [e] at ih
        rw [List.getLast?_cons_cons]
        exact ih
theorem trim_eq {p q : List Int} (hq : IsRow q) (h : ∀ i, coef p i = coef q i) : trim p = q := row_ext (trim_row p) hq fun i => by rw [coef_trim, h]
theorem trim_congr {p q : List Int} (h : ∀ i, coef p i = coef q i) : trim p = trim q := row_ext (trim_row p) (trim_row q) fun i => by rw [coef_trim, coef_trim, h]
theorem trim_id {p : List Int} (h : IsRow p) : trim p = p := trim_eq h fun _ => rfl
theorem trim_len : ∀ p : List Int, (trim p).length ≤ p.length
  | [] => Nat.le_refl _
  | a :: p => by
    unfold trim
    split
    · exact Nat.zero_le _
    · have := trim_len p
      simp only [List.length_cons]
      omega
/-- cutting at the last that is not zero -/
theorem take_trim {p : List Int} {s : Nat} (hs : s ≤ p.length) (h0 : ∀ i, s ≤ i → coef p i = 0) (h1 : s = 0 ∨ coef p (s - 1) ≠ 0) : p.take s = trim p := by
  symm
  apply trim_eq
  · rw [isRow_iff]
    rcases h1 with e | e
    · left
      rw [e]
      simp
    · by_cases hz : s = 0
      · left
        rw [hz]
        simp
      · right
        rw [List.length_take, Nat.min_eq_left hs, coef_take, if_pos (by omega)]
        exact e
  · intro i
    rw [coef_take]
    split
    · rfl
    · exact h0 i (by omega)
theorem trim_mem {p : List Int} {x : Int} : x ∈ trim p → x ∈ p := by
  induction p with
  | nil => exact id
  | cons a p ih =>
    unfold trim
    split
    · intro h
      simp at h
    · intro h
      rcases List.mem_cons.mp h with e | h
      · rw [e]
        exact List.mem_cons_self ..
      · exact List.mem_cons_of_mem _ (ih h)

/-! ### sum, product -/
def padd : List Int → List Int → List Int
  | [], q => q
  | a :: p, [] => a :: p
  | a :: p, b :: q => (a + b) :: padd p q
theorem coef_padd : ∀ (p q : List Int) (i : Nat), coef (padd p q) i = coef p i + coef q i
  | [], q, i => by rw [coef_nil, Int.zero_add]; rfl
  | a :: p, [], i => by rw [coef_nil, Int.add_zero]; rfl
  | a :: p, b :: q, 0 => by
    show coef ((a + b) :: padd p q) 0 = _
    rw [coef_cons_zero, coef_cons_zero, coef_cons_zero]
  | a :: p, b :: q, i + 1 => by
    show coef ((a + b) :: padd p q) (i + 1) = _
    rw [coef_cons_succ, coef_cons_succ, coef_cons_succ, coef_padd p q i]
theorem padd_len : ∀ p q : List Int, (padd p q).length = max p.length q.length
  | [], q => by simp [padd]
  | a :: p, [] => by simp [padd]
  | a :: p, b :: q => by
    show (padd p q).length + 1 = _
    rw [padd_len p q]
    simp only [List.length_cons]
    omega
def pscale (n : Int) (p : List Int) : List Int := p.map (n * ·)
theorem coef_pscale (n : Int) (p : List Int) (i : Nat) : coef (pscale n p) i = n * coef p i := coef_map (f := (n * ·)) (Int.mul_zero n) p i
def pmul : List Int → List Int → List Int
  | [], _ => []
  | a :: p, q => padd (pscale a q) (0 :: pmul p q)
theorem coef_pmul_cons (a : Int) (p q : List Int) (k : Nat) : coef (pmul (a :: p) q) k = a * coef q k + (if k = 0 then 0 else coef (pmul p q) (k - 1)) := by
  show coef (padd (pscale a q) (0 :: pmul p q)) k = _
  rw [coef_padd, coef_pscale]
  cases k with
  | zero => rw [coef_cons_zero, if_pos rfl]
  | succ k => rw [coef_cons_succ, if_neg (Nat.succ_ne_zero k), Nat.add_sub_cancel]
theorem coef_pmul_app (a : Int) (q : List Int) : ∀ (p : List Int) (k : Nat), coef (pmul (p ++ [a]) q) k = coef (pmul p q) k + (if p.length ≤ k then a * coef q (k - p.length) else 0)
  | [], k => by
    rw [List.nil_append, coef_pmul_cons]
    have e : ∀ j, coef (pmul [] q) j = 0 := fun j => coef_nil j
    rw [e, e, List.length_nil, if_pos (Nat.zero_le k), Nat.sub_zero]
    split <;> omega
  | b :: p, k => by
    rw [List.cons_append, coef_pmul_cons, coef_pmul_cons]
    cases k with
    | zero =>
      rw [if_pos rfl, if_pos rfl, if_neg (by simp)]
      omega
    | succ k =>
      rw [if_neg (Nat.succ_ne_zero k), if_neg (Nat.succ_ne_zero k), Nat.add_sub_cancel, coef_pmul_app a q p k, List.length_cons]
      by_cases h : p.length ≤ k
      · rw [if_pos h, if_pos (by omega), Nat.succ_sub_succ]
        omega
      · rw [if_neg h, if_neg (by omega)]
        omega
theorem coef_pmul_take {p q : List Int} {i : Nat} (hi : i < p.length) (k : Nat) : coef (pmul (p.take (i + 1)) q) k = coef (pmul (p.take i) q) k + (if i ≤ k then coef p i * coef q (k - i) else 0) := by
  have e : p.take (i + 1) = p.take i ++ [coef p i] := by
    rw [List.take_add_one, get_coef hi]
    rfl
  rw [e, coef_pmul_app, List.length_take, Nat.min_eq_left (Nat.le_of_lt hi)]
theorem coef_pmul_set (q : List Int) (v : Int) : ∀ {p : List Int} {j : Nat} (hj : j < p.length) (h0 : coef p j = 0) (k : Nat), coef (pmul (p.set j v) q) k = coef (pmul p q) k + (if j ≤ k then v * coef q (k - j) else 0)
  | [], j, hj, _, _ => absurd hj (by simp)
  | a :: p, 0, _, h0, k => by
    rw [coef_cons_zero] at h0
    subst h0
    rw [List.set_cons_zero, coef_pmul_cons, coef_pmul_cons, if_pos (Nat.zero_le k), Nat.sub_zero]
    omega
  | a :: p, j + 1, hj, h0, k => by
    rw [coef_cons_succ] at h0
    rw [List.set_cons_succ, coef_pmul_cons, coef_pmul_cons]
    have hj' : j < p.length := by
      simp only [List.length_cons] at hj
      omega
    cases k with
    | zero => rw [if_pos rfl, if_pos rfl, if_neg (by omega)]; omega
    | succ k =>
      rw [if_neg (Nat.succ_ne_zero k), if_neg (Nat.succ_ne_zero k), Nat.add_sub_cancel, coef_pmul_set q v hj' h0 k]
      by_cases h : j ≤ k
      · rw [if_pos h, if_pos (by omega), Nat.succ_sub_succ]
        omega
      · rw [if_neg h, if_neg (by omega)]
        omega
theorem coef_pmul_ge : ∀ (p q : List Int) (k : Nat), p.length + q.length ≤ k + 1 → coef (pmul p q) k = 0
  | [], q, k, _ => coef_nil k
  | a :: p, q, k, h => by
    simp only [List.length_cons] at h
    rw [coef_pmul_cons]
    rw [coef_ge (p := q) (by omega)]
    cases k with
    | zero => simp
    | succ k =>
      rw [if_neg (Nat.succ_ne_zero k), Nat.add_sub_cancel, coef_pmul_ge p q k (by omega)]
      omega
theorem coef_pmul_top : ∀ (p q : List Int), p ≠ [] → q ≠ [] → coef (pmul p q) (p.length + q.length - 2) = coef p (p.length - 1) * coef q (q.length - 1)
  | [], _, h, _ => absurd rfl h
  | [a], q, _, hq => by
    have := List.length_pos_iff.mpr hq
    have e : ∀ j, coef (pmul [] q) j = 0 := fun j => coef_nil j
    have ea : [a].length + q.length - 2 = q.length - 1 := by
      simp only [List.length_cons, List.length_nil]
      omega
    rw [ea, coef_pmul_cons, e]
    show a * coef q (q.length - 1) + _ = coef [a] 0 * coef q (q.length - 1)
    rw [coef_cons_zero]
    split <;> omega
  | a :: b :: p, q, _, hq => by
    have hl := List.length_pos_iff.mpr hq
    have ih := coef_pmul_top (b :: p) q (List.cons_ne_nil _ _) hq
    rw [coef_pmul_cons]
    simp only [List.length_cons] at ih ⊢
    rw [coef_ge (p := q) (by omega), if_neg (by omega), show p.length + 1 + 1 + q.length - 2 - 1 = p.length + 1 + q.length - 2 by omega, ih, show p.length + 1 + 1 - 1 = (p.length + 1 - 1) + 1 by omega, coef_cons_succ]
    omega
theorem coef_pmul_nil : ∀ (p : List Int) (k : Nat), coef (pmul p []) k = 0
  | [], k => coef_nil k
  | a :: p, k => by
    rw [coef_pmul_cons, coef_nil]
    split
    · omega
    · rw [coef_pmul_nil p]
      omega
theorem pmul_row {p q : List Int} (hp : IsRow p) (hq : IsRow q) (h1 : p ≠ []) (h2 : q ≠ []) {l : List Int} (hl : l.length = p.length + q.length - 1) (hc : ∀ k, coef l k = coef (pmul p q) k) : IsRow l := by
  have l1 := List.length_pos_iff.mpr h1
  have l2 := List.length_pos_iff.mpr h2
  rw [isRow_iff]
  right
  rw [hl, hc, show p.length + q.length - 1 - 1 = p.length + q.length - 2 by omega, coef_pmul_top p q h1 h2]
  have a := (isRow_iff.mp hp).resolve_left h1
  have b := (isRow_iff.mp hq).resolve_left h2
  exact Int.mul_ne_zero a b
end My
/-! Euclid in few turns -/
namespace My
/-- the i-th turn of Euclid's rule, b below 2 ^ L at first -/
def Euc (L i x y : Nat) : Prop := (i % 2 = 0 → y * 2 ^ (i / 2) < 2 ^ L) ∧ (i % 2 = 1 → x * 2 ^ (i / 2) < 2 ^ L ∧ y < x)
theorem Euc.step {L i x y : Nat} (h : Euc L i x y) (hy : y ≠ 0) : Euc L (i + 1) y (x % y) := by
  have hlt : x % y < y := Nat.mod_lt _ (by omega)
  refine ⟨fun e => ?_, fun e => ?_⟩
  · obtain ⟨h1, h2⟩ := h.2 (by omega)
    have e2 : (i + 1) / 2 = i / 2 + 1 := by omega
    rw [e2, Nat.pow_succ]
    have hm : x % y * 2 ≤ x := by
      have a := Nat.div_add_mod x y
      have b : 1 ≤ x / y := (Nat.le_div_iff_mul_le (by omega)).mpr (by omega)
      have c : y * 1 ≤ y * (x / y) := Nat.mul_le_mul_left y b
      omega
    have hp : 0 < 2 ^ (i / 2) := Nat.two_pow_pos _
    calc x % y * (2 ^ (i / 2) * 2) = x % y * 2 * 2 ^ (i / 2) := by rw [Nat.mul_assoc, Nat.mul_comm 2]
      _ ≤ x * 2 ^ (i / 2) := Nat.mul_le_mul_right _ hm
      _ < 2 ^ L := h1
  · have h1 := h.1 (by omega)
    have e2 : (i + 1) / 2 = i / 2 := by omega
    rw [e2]
    exact ⟨h1, hlt⟩
theorem Euc.zero {L x y : Nat} (h : Euc L (2 * L + 4) x y) : y = 0 := by
  have h1 := h.1 (by omega)
  have e : (2 * L + 4) / 2 = L + 2 := by omega
  rw [e] at h1
  by_cases c : y = 0
  · exact c
  · exfalso
    have a : 1 * 2 ^ (L + 2) ≤ y * 2 ^ (L + 2) := Nat.mul_le_mul_right _ (by omega)
    have b : 2 ^ L ≤ 2 ^ (L + 2) := Nat.pow_le_pow_right (by decide) (by omega)
    omega
end My
namespace My
open PySem PySem.Spec PyProof.Rows L2
/-! ### isinstance -/
section
variable {K : PySem.W.Frag} {H : Hp} {Q : VK} {a : Addr} {xs : List V} {i : Int}
theorem w_isiII (q : Q (.bl true) H) : rIsi K [.int i, .ty "int"] H Q := ⟨_, _, _, _, _, rfl, .ty _, .base (.int i), kit_ty (by decide +kernel), q⟩
theorem w_isiIB (q : Q (.bl false) H) : rIsi K [.int i, .ty "bool"] H Q := ⟨_, _, _, _, _, rfl, .ty _, .base (.int i), kit_ty (by decide +kernel), q⟩
theorem tyT (h : SqT K H a xs) : TyX K H (.ref a) (.type "tuple") := by
  rcases h with (h | ⟨o, h⟩) | ⟨o, its, n, hk, hc, _⟩
  · exact .base (.tup h)
  · exact .fTuple h
  · exact .kTuple hk hc
theorem w_isiTT (h : SqT K H a xs) (q : Q (.bl true) H) : rIsi K [.ref a, .ty "tuple"] H Q := ⟨_, _, _, _, _, rfl, .ty _, tyT h, kit_ty (by decide +kernel), q⟩
theorem w_all {bs : List Bool} (h : SqL K H a (bs.map V.bl)) (q : Q (.bl (bs.all id)) H) : rAll K [.ref a] H Q := ⟨a, bs, rfl, h, q⟩
end
theorem ite_ndf {A B P : Prop} [Decidable P] (p : P) (h : B) : if (!decide P) = true then A else B := by rw [if_neg (by simp [p])]; exact h
theorem ite_ndt {A B P : Prop} [Decidable P] (p : ¬ P) (h : A) : if (!decide P) = true then A else B := by rw [if_pos (by simp [p])]; exact h
theorem abs_pow_lt {a : Int} {b s : Nat} (h : a.natAbs < 2 ^ b) : (a ^ s).natAbs < 2 ^ (b * s + 1) := by
  have e : (a ^ s).natAbs = a.natAbs ^ s := Int.natAbs_pow a s
  rw [e]
  have h1 : a.natAbs ^ s ≤ (2 ^ b) ^ s := Nat.pow_le_pow_left (Nat.le_of_lt h) s
  rw [← Nat.pow_mul] at h1
  exact Nat.lt_of_le_of_lt h1 (Nat.pow_lt_pow_right (by decide) (Nat.lt_succ_self _))
theorem abs_mono {x : Int} {a b : Nat} (hx : x.natAbs < 2 ^ a) (h : a ≤ b) : x.natAbs < 2 ^ b := Nat.lt_of_lt_of_le hx (Nat.pow_le_pow_right (by decide) h)
def RetT (K : PySem.W.Frag) (H : Hp) (Q : VK) (p : List Int) : Prop := ∀ a H', Ch [] H H' → SqT K H' a (ivs p) → Q (.ref a) H'
theorem eqv_ints : ∀ p r : List Int, PyData.eqvAll (p.map PyData.int) (r.map PyData.int) = decide (p = r)
  | [], [] => by simp [PyData.eqvAll]
  | [], y :: r => by simp [PyData.eqvAll]
  | x :: p, [] => by simp [PyData.eqvAll]
  | x :: p, y :: r => by
    have ih := eqv_ints p r
    show (PyData.eqv (.int x) (.int y) && PyData.eqvAll (p.map PyData.int) (r.map PyData.int)) = _
    rw [ih]
    show ((x == y) && decide (p = r)) = _
    by_cases h : x = y
    · subst h
      simp
    · simp [h]
theorem dp_ivs {K : PySem.W.Frag} {H : Hp} : ∀ p : List Int, DpAll K H (ivs p) (p.map PyData.int)
  | [] => .nil
  | x :: p => .cons (.int x) (dp_ivs p)
theorem lay_ints : ∀ p : List Int, PyData.canLayAll0 (p.map PyData.int) = true
  | [] => rfl
  | x :: p => by
    show (PyData.canLay0 (.int x) && PyData.canLayAll0 (p.map PyData.int)) = true
    rw [lay_ints p]
    rfl
theorem depth_ints : ∀ p : List Int, PyData.depthAll (p.map PyData.int) = 0
  | [] => rfl
  | x :: p => by
    show max (PyData.depth (.int x)) (PyData.depthAll (p.map PyData.int)) = 0
    rw [depth_ints p]
    rfl
theorem shaped_ints (p : List Int) : SeqAt.shaped (.tuple (p.map PyData.int)) = true := by
  show (PyData.canLayAll0 (p.map PyData.int) && decide (PyData.depthAll (p.map PyData.int) + 1 ≤ 64)) = true
  rw [lay_ints, depth_ints]
  rfl
theorem shapedL_ints (p : List Int) : SeqAt.shaped (.list (p.map PyData.int)) = true := by
  show (PyData.canLayAll0 (p.map PyData.int) && decide (PyData.depthAll (p.map PyData.int) + 1 ≤ 64)) = true
  rw [lay_ints, depth_ints]
  rfl
theorem w_eqT {K : PySem.W.Frag} {H : Hp} {Q : VK} {a b : Addr} {p r : List Int} (h1 : SqT K H a (ivs p)) (h2 : SqT K H b (ivs r)) (q : Q (.bl (decide (p = r))) H) : rEqD K (.ref a) (.ref b) H Q :=
  ⟨_, _, .tup h1 (dp_ivs p), .tup h2 (dp_ivs r), shaped_ints p, shaped_ints r, by
    show Q (.bl (PyData.eqvAll (p.map PyData.int) (r.map PyData.int))) H
    rw [eqv_ints]
    exact q⟩
theorem w_neT {K : PySem.W.Frag} {H : Hp} {Q : VK} {a b : Addr} {p r : List Int} (h1 : SqT K H a (ivs p)) (h2 : SqT K H b (ivs r)) (q : Q (.bl (!decide (p = r))) H) : rNeD K (.ref a) (.ref b) H Q :=
  ⟨_, _, .tup h1 (dp_ivs p), .tup h2 (dp_ivs r), shaped_ints p, shaped_ints r, by
    show Q (.bl (!PyData.eqvAll (p.map PyData.int) (r.map PyData.int))) H
    rw [eqv_ints]
    exact q⟩
theorem w_eqL {K : PySem.W.Frag} {H : Hp} {Q : VK} {a b : Addr} {p r : List Int} (h1 : SqL K H a (ivs p)) (h2 : SqL K H b (ivs r)) (q : Q (.bl (decide (p = r))) H) : rEqD K (.ref a) (.ref b) H Q :=
  ⟨_, _, .lst h1 (dp_ivs p), .lst h2 (dp_ivs r), shapedL_ints p, shapedL_ints r, by
    show Q (.bl (PyData.eqvAll (p.map PyData.int) (r.map PyData.int))) H
    rw [eqv_ints]
    exact q⟩
end My
/-! texts: readings, and plain facts about lists of signs -/
namespace My
open PySem PySem.Spec PyProof.Rows L2
open SX (S S_cat S_len S_tl S_inj)
open TL (numL tl)
open PySem.NumText (AllDigits digitsVal)
/-! ### texts as lists of signs -/
theorem S_ex (x : Str) : ∃ l, x = S l ∧ l.length = x.length := ⟨x.cps.toList, (S_tl x).symm, Array.length_toList⟩
theorem S_eqb {a b : List Nat} : decide (V.str (S a) = V.str (S b)) = decide (a = b) := by
  by_cases h : a = b
  · subst h
    rw [decide_eq_true rfl, decide_eq_true rfl]
  · rw [decide_eq_false h, decide_eq_false fun z => h (S_inj (V.str.inj z))]
def intL (n : Int) : List Nat := if n < 0 then 45 :: numL n.natAbs else numL n.natAbs
theorem intL_neg {n : Int} (h : n < 0) : intL n = 45 :: numL n.natAbs := if_pos h
theorem intL_pos {n : Int} (h : ¬ n < 0) : intL n = numL n.natAbs := if_neg h
theorem str_nat {n : Int} (h : 0 ≤ n) : Str.ofString (toString n) = S (numL n.natAbs) := by
  obtain ⟨m, rfl⟩ := Int.eq_ofNat_of_zero_le h
  exact SX.num_S m
theorem str_int (n : Int) : Str.ofString (toString n) = S (intL n) := by
  unfold intL
  by_cases h : n < 0
  · rw [if_pos h]
    obtain ⟨m, rfl⟩ := Int.eq_negSucc_of_lt_zero h
    refine TL.ext_tl ?_
    show (Str.ofString (toString (Int.negSucc m))).cps.toList = 45 :: numL (m + 1)
    have e1 : (Str.ofString (toString (((m + 1 : Nat)) : Int))).cps.toList = numL (m + 1) := TL.tl_num (m + 1)
    rw [PyProof.Rows.signs_ofString] at e1 ⊢
    have e2 : toString (Int.negSucc m) = "-" ++ toString (((m + 1 : Nat)) : Int) := rfl
    rw [e2, String.toList_append, List.map_append, e1]
    rfl
  · rw [if_neg h]
    exact str_nat (by omega)
theorem numL_len_pow {n k : Nat} (hk : 0 < k) (h : n < 10 ^ k) : (numL n).length ≤ k := TL.numL_len hk h
theorem intL_len {n : Int} {k : Nat} (hk : 0 < k) (h : n.natAbs < 10 ^ k) : (intL n).length ≤ k + 1 := by
  have := TL.numL_len hk h
  unfold intL
  split
  · rw [List.length_cons]
    omega
  · omega
theorem pow2_10 {x : Nat} (h : x < 2 ^ 300) : x < 10 ^ 91 := Nat.lt_of_lt_of_le h (by decide +kernel)
theorem zfill_S {l : List Nat} (h : AllDigits l) (p : Nat) : Txt.zfill (S l) (p : Int) = S (List.replicate (p - l.length) 48 ++ l) := by
  unfold Txt.zfill
  rw [S_len]
  by_cases c : (p : Int) ≤ (l.length : Int)
  · rw [if_pos c, show p - l.length = 0 by omega]
    rfl
  · rw [if_neg c]
    have hp : Builtin.Str.padded (S l) ((p : Int).toNat - l.length) 0 48 = S (List.replicate (p - l.length) 48 ++ l) := by
      refine TL.ext_tl ?_
      show (Builtin.Str.padded (S l) ((p : Int).toNat - l.length) 0 48).cps.toList = _
      rw [PyProof.Rows.padded_list, Int.toNat_natCast]
      simp
    unfold PySem.zfilled
    split
    · rename_i e
      exfalso
      cases l with
      | nil => simp at e
      | cons x r =>
        have := h x (List.mem_cons_self ..)
        simp at e
        omega
    · rename_i e
      exfalso
      cases l with
      | nil => simp at e
      | cons x r =>
        have := h x (List.mem_cons_self ..)
        simp at e
        omega
    · exact hp
theorem six_pos {n d : Nat} {i : Int} (h : 0 ≤ i) : HT.sIx n d (some i) = min i.toNat n := by
  show (if i < 0 then (i + (n : Int)).toNat else min i.toNat n) = _
  rw [if_neg (by omega)]
theorem cut_to {l : List Nat} {i : Int} (h : 0 ≤ i) : cutS (S l) none (some i) = S (l.take i.toNat) := by
  refine TL.ext_tl ?_
  show ((l.drop (HT.sIx (S l).length 0 none)).take (HT.sIx (S l).length (S l).length (some i) - HT.sIx (S l).length 0 none)) = l.take i.toNat
  rw [HT.sIx_none, S_len, List.drop_zero, six_pos h, Nat.sub_zero]
  by_cases c : i.toNat ≤ l.length
  · rw [Nat.min_eq_left c]
  · rw [Nat.min_eq_right (by omega), List.take_length, List.take_of_length_le (by omega)]
theorem cut_from {l : List Nat} {i : Int} (h : 0 ≤ i) : cutS (S l) (some i) none = S (l.drop i.toNat) := by
  refine TL.ext_tl ?_
  show ((l.drop (HT.sIx (S l).length 0 (some i))).take (HT.sIx (S l).length (S l).length none - HT.sIx (S l).length 0 (some i))) = l.drop i.toNat
  rw [HT.sIx_none, S_len, six_pos h]
  by_cases c : i.toNat ≤ l.length
  · rw [Nat.min_eq_left c, List.take_of_length_le (by rw [List.length_drop]; omega)]
  · rw [Nat.min_eq_right (by omega), List.drop_length, List.drop_of_length_le (by omega)]
    simp
theorem cut_mid_len {x : Str} {i j : Int} (h : 0 ≤ i) (h2 : 0 ≤ j) : (cutS x (some i) (some j)).length ≤ min (j.toNat - i.toNat) (x.length - i.toNat) := by
  show (((x.cps.toList.drop (HT.sIx x.length 0 (some i))).take (HT.sIx x.length x.length (some j) - HT.sIx x.length 0 (some i))).toArray).size ≤ _
  rw [List.size_toArray, List.length_take, List.length_drop, Array.length_toList]
  rw [six_pos h, six_pos h2]
  have : x.cps.size = x.length := rfl
  omega
theorem cut_to_len {x : Str} {i : Int} (h : 0 ≤ i) : (cutS x none (some i)).length = min i.toNat x.length := by
  obtain ⟨l, rfl, hl⟩ := S_ex x
  rw [cut_to h, S_len, S_len, List.length_take]
theorem cut_from_len {x : Str} {i : Int} (h : 0 ≤ i) : (cutS x (some i) none).length = x.length - i.toNat := by
  obtain ⟨l, rfl, hl⟩ := S_ex x
  rw [cut_from h, S_len, S_len, List.length_drop]
theorem head_is {l : List Nat} {c : Nat} : decide (l.take 1 = [c]) = decide (l.head? = some c) := by
  cases l with
  | nil => simp
  | cons x r => simp
theorem starts_S {l : List Nat} {c : Nat} : Txt.startswith (S l) (S [c]) = decide (l.head? = some c) := by
  unfold Txt.startswith
  cases l with
  | nil => simp [S_len]
  | cons x r =>
    have e : Builtin.Str.subAt (S (x :: r)) (S [c]) 0 = (x == c) := by
      unfold Builtin.Str.subAt
      simp [S, Str.length]
    rw [e, S_len, S_len]
    simp only [List.length_cons, List.length_nil, List.head?_cons, Option.some.injEq]
    rw [show decide (0 + (0 + 1) ≤ r.length + 1) = true from decide_eq_true (by omega), Bool.true_and]
    exact Bool.eq_iff_iff.mpr (by simp)
theorem lenlit : (Str.ofString "").length = 0 ∧ (Str.ofString " ").length = 1 ∧ (Str.ofString " !\"#$&'()*+,-./0123456789:;<=>?@ABCDEFGHIJKLMNOPQRSTUVWXYZ[\\]^_`").length = 64 ∧ (Str.ofString " /").length = 2 ∧ (Str.ofString "(").length = 1 ∧ (Str.ofString ")").length = 1 ∧ (Str.ofString "+").length = 1 ∧ (Str.ofString ",0").length = 2 ∧ (Str.ofString "-").length = 1 ∧ (Str.ofString "- ").length = 2 ∧ (Str.ofString "--").length = 2 ∧ (Str.ofString "-/").length = 2 ∧ (Str.ofString "-0").length = 2 ∧ (Str.ofString "-0/").length = 3 ∧ (Str.ofString ".").length = 1 ∧ (Str.ofString ".0").length = 2 ∧ (Str.ofString "/").length = 1 ∧ (Str.ofString "/ ").length = 2 ∧ (Str.ofString "/+").length = 2 ∧ (Str.ofString "/-").length = 2 ∧ (Str.ofString "//").length = 2 ∧ (Str.ofString "/0").length = 2 ∧ (Str.ofString "/00").length = 3 ∧ (Str.ofString "/1").length = 2 ∧ (Str.ofString "0").length = 1 ∧ (Str.ofString "0/").length = 2 ∧ (Str.ofString "00").length = 2 ∧ (Str.ofString "0123456789").length = 10 ∧ (Str.ofString "0123456789/-+ ._").length = 16 ∧ (Str.ofString "0x").length = 2 ∧ (Str.ofString "1").length = 1 ∧ (Str.ofString "None").length = 4 ∧ (Str.ofString "\\").length = 1 ∧ (Str.ofString "_").length = 1 ∧ (Str.ofString "_0").length = 2 ∧ (Str.ofString "abcdefghijklmnopqrstuvwxyz{|}~").length = 30 ∧ (Str.ofString "e1").length = 2 := by decide +kernel
end My
/-! plain words of digits, and the text of a fraction, read -/
namespace My
open PySem PySem.Spec PyProof.Rows L2
open SX (S S_cat S_len S_tl S_inj)
open TL (numL tl)
open PySem.NumText (AllDigits digitsVal)
abbrev dv (l : List Nat) : Nat := digitsVal l
theorem dv_foldl : ∀ (q : List Nat) (a : Nat), q.foldl (fun acc c => acc * 10 + (c - 48)) a = a * 10 ^ q.length + q.foldl (fun acc c => acc * 10 + (c - 48)) 0
  | [], a => by simp
  | c :: q, a => by
    rw [List.foldl_cons, List.foldl_cons, dv_foldl q (a * 10 + (c - 48)), dv_foldl q (0 * 10 + (c - 48)), List.length_cons, Nat.pow_succ, Nat.add_mul, Nat.zero_mul, Nat.zero_add, Nat.mul_assoc, Nat.mul_comm 10, Nat.add_assoc]
theorem dv_app (p q : List Nat) : dv (p ++ q) = dv p * 10 ^ q.length + dv q := by
  unfold dv digitsVal
  rw [List.foldl_append, dv_foldl]
theorem dv_one (c : Nat) : dv [c] = c - 48 := by
  show 0 * 10 + (c - 48) = c - 48
  omega
theorem dv_cons (c : Nat) (q : List Nat) : dv (c :: q) = (c - 48) * 10 ^ q.length + dv q := by
  have := dv_app [c] q
  rw [dv_one] at this
  exact this
theorem dv_zeros : ∀ (k : Nat) (q : List Nat), dv (List.replicate k 48 ++ q) = dv q
  | 0, q => by rw [List.replicate_zero, List.nil_append]
  | k + 1, q => by rw [List.replicate_succ, List.cons_append, dv_cons, dv_zeros k q]; simp
theorem dv_lt : ∀ {p : List Nat}, AllDigits p → dv p < 10 ^ p.length
  | [], _ => by decide
  | c :: p, h => by
    have h0 := h.head
    have ih := dv_lt h.tail
    rw [dv_cons, List.length_cons, Nat.pow_succ]
    have : (c - 48) * 10 ^ p.length ≤ 9 * 10 ^ p.length := Nat.mul_le_mul_right _ (by omega)
    omega
def Plain (l : List Nat) : Prop := AllDigits l ∧ (l = [48] ∨ ∃ c r, l = c :: r ∧ c ≠ 48)
theorem Plain.ne {l : List Nat} (h : Plain l) : l ≠ [] := by
  rcases h.2 with e | ⟨c, r, e, _⟩ <;> rw [e] <;> simp
theorem dv_pos {c : Nat} {r : List Nat} (h : AllDigits (c :: r)) (n : c ≠ 48) : 1 ≤ dv (c :: r) := by
  have := h.head
  rw [dv_cons]
  have : 1 * 10 ^ r.length ≤ (c - 48) * 10 ^ r.length := Nat.mul_le_mul_right _ (by omega)
  have p := Nat.pow_pos (n := r.length) (show 0 < 10 by decide)
  omega
theorem numL_dv : ∀ (k : Nat) {p : List Nat}, p.length ≤ k → Plain p → numL (dv p) = p := by
  intro k
  induction k with
  | zero =>
    intro p hp h
    exact absurd (List.length_eq_zero_iff.mp (by omega)) h.ne
  | succ k ih =>
    intro p hp h
    rcases List.eq_nil_or_concat p with e | ⟨q, c, e⟩
    · exact absurd e h.ne
    · rw [List.concat_eq_append] at e
      subst e
      have hc : 48 ≤ c ∧ c ≤ 57 := h.1 c (by simp)
      have hq : AllDigits q := fun d hd => h.1 d (by simp [hd])
      have ev : dv (q ++ [c]) = dv q * 10 + (c - 48) := by rw [dv_app, dv_one]; rfl
      by_cases z : q = []
      · subst z
        rw [List.nil_append, dv_one, TL.numL_lt (by omega), show 48 + (c - 48) = c by omega]
      · obtain ⟨d, r, e⟩ := List.exists_cons_of_ne_nil z
        subst e
        have nd : d ≠ 48 := by
          rcases h.2 with e | ⟨x, y, e, n⟩
          · simp at e
          · rw [List.cons_append] at e
            injection e with e1 e2
            rw [e1]
            exact n
        have ih := ih (p := d :: r) (by rw [List.length_append] at hp; simp only [List.length_cons, List.length_nil] at hp ⊢; omega) ⟨hq, .inr ⟨d, r, rfl, nd⟩⟩
        have p1 := dv_pos hq nd
        rw [ev, TL.numL_step (by omega), show (dv (d :: r) * 10 + (c - 48)) / 10 = dv (d :: r) by omega, show 48 + (dv (d :: r) * 10 + (c - 48)) % 10 = c by omega, ih]
theorem numL_plain : ∀ n : Nat, Plain (numL n) := by
  intro n
  refine ⟨TL.numL_digits n, ?_⟩
  induction n using Nat.strongRecOn with
  | _ n ih =>
    by_cases h : n < 10
    · rw [TL.numL_lt h]
      by_cases z : n = 0
      · subst z
        exact .inl rfl
      · exact .inr ⟨_, _, rfl, by omega⟩
    · rw [TL.numL_step (by omega)]
      rcases ih (n / 10) (by omega) with e | ⟨c, r, e, nc⟩
      · exfalso
        have v := TL.numL_val (n / 10)
        rw [e] at v
        have : (0 : Nat) = n / 10 := v
        omega
      · rw [e]
        exact .inr ⟨c, r ++ _, rfl, nc⟩
theorem plain_zero {p : List Nat} (h : Plain p) : dv p = 0 ↔ p = [48] := by
  refine ⟨fun e => ?_, fun e => by rw [e]; rfl⟩
  have := numL_dv p.length (Nat.le_refl _) h
  rw [e] at this
  rw [← this]
  rfl
/-! ### reading a fraction -/
def digB (c : Nat) : Bool := decide (48 ≤ c) && decide (c ≤ 57)
def plainB (l : List Nat) : Bool := l.all digB && (decide (l = [48]) || match l with | [] => false | c :: _ => !decide (c = 48))
theorem all_dig {l : List Nat} : l.all digB = true ↔ AllDigits l := by
  rw [List.all_eq_true]
  refine ⟨fun h c hc => ?_, fun h c hc => ?_⟩
  · have := h c hc
    unfold digB at this
    rw [Bool.and_eq_true, decide_eq_true_eq, decide_eq_true_eq] at this
    exact this
  · unfold digB
    rw [Bool.and_eq_true, decide_eq_true_eq, decide_eq_true_eq]
    exact h c hc
theorem plainB_iff {l : List Nat} : plainB l = true ↔ Plain l := by
  unfold plainB Plain
  rw [Bool.and_eq_true, all_dig, Bool.or_eq_true, decide_eq_true_eq]
  refine and_congr_right fun _ => or_congr_right ?_
  cases l with
  | nil => simp
  | cons c r => simp
/-- the text cut at the first slash -/
def cut : List Nat → List Nat × Option (List Nat)
  | [] => ([], none)
  | c :: t => if c = 47 then ([], some t) else (c :: (cut t).1, (cut t).2)
theorem cut_none : ∀ {l : List Nat}, (cut l).2 = none → (cut l).1 = l ∧ 47 ∉ l
  | [], _ => ⟨rfl, by simp⟩
  | c :: t, h => by
    unfold cut at h ⊢
    by_cases z : c = 47
    · rw [if_pos z] at h
      cases h
    · rw [if_neg z] at h ⊢
      obtain ⟨e, n⟩ := cut_none (l := t) h
      exact ⟨by show c :: (cut t).1 = _; rw [e], by simp [n, Ne.symm z]⟩
theorem cut_some : ∀ {l q : List Nat}, (cut l).2 = some q → l = (cut l).1 ++ 47 :: q ∧ 47 ∉ (cut l).1
  | [], q, h => by cases h
  | c :: t, q, h => by
    unfold cut at h ⊢
    by_cases z : c = 47
    · rw [if_pos z] at h ⊢
      cases h
      exact ⟨by rw [z]; rfl, by simp⟩
    · rw [if_neg z] at h ⊢
      obtain ⟨e, n⟩ := cut_some (l := t) h
      refine ⟨?_, by simp [n, Ne.symm z]⟩
      show c :: t = c :: ((cut t).1 ++ 47 :: q)
      rw [← e]
def negB (l : List Nat) : Bool := decide (l.head? = some 45)
def rest (l : List Nat) : List Nat := if negB l = true then l.drop 1 else l
def sg (b : Bool) (n : Nat) : Int := if b = true then -(n : Int) else n
/-- the fraction that a text tells -/
def rd (l : List Nat) : Option (Int × Int) :=
  let p := (cut (rest l)).1
  if plainB p = true ∧ ¬ (negB l = true ∧ p = [48]) then
    match (cut (rest l)).2 with
    | none => some (sg (negB l) (dv p), 1)
    | some q => if plainB q = true ∧ 2 ≤ dv q ∧ Nat.gcd (dv p) (dv q) = 1 then some (sg (negB l) (dv p), (dv q : Int)) else none
  else none
def fracL (n d : Int) : List Nat := if d = 1 then intL n else intL n ++ 47 :: intL d
theorem intL_sg {b : Bool} {p : List Nat} (h : Plain p) (z : ¬ (b = true ∧ p = [48])) : intL (sg b (dv p)) = (if b = true then [45] else []) ++ p := by
  have e := numL_dv p.length (Nat.le_refl _) h
  unfold sg
  cases b with
  | false =>
    rw [if_neg (by decide), if_neg (by decide), intL_pos (by omega), Int.natAbs_natCast, e]
    rfl
  | true =>
    rw [if_pos rfl, if_pos rfl]
    have nz : dv p ≠ 0 := fun q => z ⟨rfl, (plain_zero h).mp q⟩
    rw [intL_neg (by omega), Int.natAbs_neg, Int.natAbs_natCast, e]
    rfl
theorem rest_eq (l : List Nat) : l = (if negB l = true then [45] else []) ++ rest l := by
  unfold rest
  by_cases h : negB l = true
  · rw [if_pos h, if_pos h]
    unfold negB at h
    rw [decide_eq_true_eq] at h
    cases l with
    | nil => cases h
    | cons c r =>
      injection h with h
      subst h
      rfl
  · rw [if_neg h, if_neg h]
    rfl
/-- the read-back: what is read, written -/
theorem rd_back {l : List Nat} {n d : Int} (h : rd l = some (n, d)) : fracL n d = l ∧ 0 < d := by
  unfold rd at h
  dsimp only at h
  by_cases c : plainB (cut (rest l)).1 = true ∧ ¬ (negB l = true ∧ (cut (rest l)).1 = [48])
  · rw [if_pos c] at h
    obtain ⟨c1, c2⟩ := c
    have hp := plainB_iff.mp c1
    have il := intL_sg (b := negB l) hp c2
    have rl := rest_eq l
    cases e : (cut (rest l)).2 with
    | none =>
      rw [e] at h
      have h := Option.some.inj h
      injection h with h1 h2
      obtain ⟨e1, e2⟩ := cut_none e
      rw [← h1, ← h2]
      refine ⟨?_, by decide⟩
      unfold fracL
      rw [if_pos rfl, il, e1]
      exact rl.symm
    | some q =>
      rw [e] at h
      dsimp only at h
      by_cases k : plainB q = true ∧ 2 ≤ dv q ∧ Nat.gcd (dv (cut (rest l)).1) (dv q) = 1
      · rw [if_pos k] at h
        obtain ⟨k1, k2, k3⟩ := k
        have h := Option.some.inj h
        injection h with h1 h2
        obtain ⟨e1, e2⟩ := cut_some e
        rw [← h1, ← h2]
        refine ⟨?_, by omega⟩
        unfold fracL
        rw [if_neg (by omega), il, intL_pos (by omega), Int.natAbs_natCast, numL_dv q.length (Nat.le_refl _) (plainB_iff.mp k1), List.append_assoc, ← e1]
        exact rl.symm
      · rw [if_neg k] at h
        cases h
  · rw [if_neg c] at h
    cases h
/-- the text of a fraction in lowest terms, read -/
theorem rd_frac {n d : Int} (d0 : 0 < d) (g : Nat.gcd n.natAbs d.natAbs = 1) : rd (fracL n d) = some (n, d) := by
  have key : ∀ t : List Nat, (t = [] ∨ ∃ q, t = 47 :: q) → negB (intL n ++ t) = decide (n < 0) ∧ rest (intL n ++ t) = numL n.natAbs ++ t := by
    intro t _
    have hh : ∀ u : List Nat, negB (numL n.natAbs ++ u) = false := fun u => by
      unfold negB
      rw [decide_eq_false_iff_not]
      intro z
      obtain ⟨c, r, e⟩ := List.exists_cons_of_ne_nil (TL.numL_ne n.natAbs)
      rw [e] at z
      have z1 : c = 45 := by simpa using z
      have := TL.numL_digits n.natAbs c (by rw [e]; simp)
      omega
    by_cases z : n < 0
    · have e : negB (intL n ++ t) = true := by rw [intL_neg z]; rfl
      refine ⟨by rw [e, decide_eq_true z], ?_⟩
      unfold rest
      rw [if_pos e, intL_neg z]
      rfl
    · have e : negB (intL n ++ t) = false := by rw [intL_pos z]; exact hh t
      refine ⟨by rw [e, decide_eq_false z], ?_⟩
      unfold rest
      rw [if_neg (by rw [e]; decide), intL_pos z]
  have ns : 47 ∉ numL n.natAbs := TL.numL_free (.inl (by decide))
  have cutn : ∀ (p : List Nat), 47 ∉ p → cut p = (p, none) ∧ ∀ q, cut (p ++ 47 :: q) = (p, some q) := by
    intro p
    induction p with
    | nil => intro _; exact ⟨rfl, fun q => by unfold cut; rw [List.nil_append]; exact if_pos rfl⟩
    | cons c r ih =>
      intro hp
      have hc : c ≠ 47 := fun z => hp (by rw [z]; simp)
      obtain ⟨i1, i2⟩ := ih fun z => hp (by simp [z])
      refine ⟨?_, fun q => ?_⟩
      · show (if c = 47 then _ else _) = _
        rw [if_neg hc, i1]
      · show (if c = 47 then _ else (c :: (cut (r ++ 47 :: q)).1, (cut (r ++ 47 :: q)).2)) = _
        rw [if_neg hc, i2]
  have pl := plainB_iff.mpr (numL_plain n.natAbs)
  have vl := TL.numL_val n.natAbs
  have nz : ¬ (decide (n < 0) = true ∧ numL n.natAbs = [48]) := fun z => by
    have := (plain_zero (numL_plain n.natAbs)).mpr z.2
    rw [show dv (numL n.natAbs) = n.natAbs from vl] at this
    have := of_decide_eq_true z.1
    omega
  have sn : sg (decide (n < 0)) n.natAbs = n := by
    unfold sg
    by_cases z : n < 0
    · rw [decide_eq_true z, if_pos rfl]; omega
    · rw [decide_eq_false z, if_neg (by decide)]; omega
  unfold fracL
  by_cases z : d = 1
  · subst z
    rw [if_pos rfl]
    obtain ⟨k1, k2⟩ := key [] (.inl rfl)
    rw [List.append_nil, List.append_nil] at k2
    rw [List.append_nil] at k1
    unfold rd
    rw [k1, k2, (cutn _ ns).1]
    show (if _ ∧ _ then some (sg _ (dv (numL n.natAbs)), (1 : Int)) else none) = _
    rw [if_pos ⟨pl, nz⟩, show dv (numL n.natAbs) = n.natAbs from vl, sn]
  · rw [if_neg z]
    obtain ⟨k1, k2⟩ := key (47 :: intL d) (.inr ⟨_, rfl⟩)
    have ed : intL d = numL d.natAbs := intL_pos (by omega)
    have vd : dv (intL d) = d.natAbs := by rw [ed]; exact TL.numL_val _
    unfold rd
    rw [k1, k2, (cutn _ ns).2]
    show (if _ ∧ _ then (if _ ∧ _ ∧ _ then some (sg _ (dv (numL n.natAbs)), (dv (intL d) : Int)) else none) else none) = _
    rw [if_pos ⟨pl, nz⟩, show dv (numL n.natAbs) = n.natAbs from vl, vd, if_pos ⟨by rw [ed]; exact plainB_iff.mpr (numL_plain _), by omega, g⟩, sn]
    congr 2
    omega
end My
/-! rules of texts under names, and their readings -/
namespace My
open PySem PySem.Spec PyProof.Rows L2
open SX (S S_cat S_len S_tl S_inj)
open TL (numL tl)
open PySem.NumText (AllDigits digitsVal)
abbrev Mt := V → List V → Hp → VK → Prop
def rAddS : R2 := fun x y H Q => ∃ i j, x = .str i ∧ y = .str j ∧ i.length + j.length ≤ sizeLine ∧ Q (.str (i ++ j)) H
def rSplit : Mt := fun x xs H Q => ∃ a b, x = .str a ∧ xs = [.str b] ∧ (b.length == 0) = false ∧ a.length + 2 ≤ sizeLine ∧ rNewStrs (Txt.split a b) H Q
def rPart : Mt := fun x xs H Q => ∃ a b, x = .str a ∧ xs = [.str b] ∧ (b.length == 0) = false ∧ a.length ≤ sizeLine ∧ ∀ p, H p = none → Q (.ref p) (upd H p (.tup [.str (Txt.partition a b).1, .str (Txt.partition a b).2.1, .str (Txt.partition a b).2.2]))
def rJoin (K : PySem.W.Frag) : Mt := fun x xs H Q => ∃ a p, ∃ ys : List Str, x = .str a ∧ xs = [.ref p] ∧ (SqL K H p (ys.map V.str) ∨ SqT K H p (ys.map V.str)) ∧ (ys.map (·.length)).sum + ys.length * a.length ≤ 16777216 ∧ Q (.str (Txt.join a ys)) H
def rZfill : Mt := fun x xs H Q => ∃ (a : Str) (i : Int), x = .str a ∧ xs = [.int i] ∧ PadOk i = true ∧ Q (.str (Txt.zfill a i)) H
def rStarts : Mt := fun x xs H Q => ∃ a b, x = .str a ∧ xs = [.str b] ∧ Q (.bl (Txt.startswith a b)) H
def rLenS : List V → Hp → VK → Prop := fun xs H Q => ∃ z, xs = [.str z] ∧ z.length ≤ sizeLine ∧ Q (.int z.length) H
def rStrI : List V → Hp → VK → Prop := fun xs H Q => ∃ i : Int, xs = [.int i] ∧ i.natAbs.log2 < 1920 ∧ Q (.str (Str.ofString (toString i))) H
def rIntS : List V → Hp → VK → Prop := fun xs H Q => ∃ a n, xs = [.str a] ∧ PySem.intText? a = some n ∧ a.length ≤ 640 ∧ Q (.int n) H
def rDm : List V → Hp → VK → Prop := fun xs H Q => ∃ i j, xs = [.int i, .int j] ∧ CDivP i j ∧ ∀ p, H p = none → Q (.ref p) (upd H p (.tup [.int (i / j), .int (i % j)]))
section
variable {X : Cx} {K : PySem.W.Frag}
theorem op_addS : OpR X (binaryOp .Add) rAddS := op_add_str
theorem mt_splitS : MtR X "str.split" rSplit := mt_split
theorem mt_partS : MtR X "str.partition" rPart := mt_partition
theorem k_join (h : X.K = K) : MtR X "str.join" (rJoin K) := h ▸ mt_join
theorem mt_zfillS : MtR X "str.zfill" rZfill := mt_zfill
theorem mt_startsS : MtR X "str.startswith" rStarts := mt_startswith
theorem cb_lenS : CallR X (.builtin "len") rLenS := call_len_str
theorem cb_strI : CallR X (.type "str") rStrI := call_str_int
theorem cb_intS : CallR X (.type "int") rIntS := call_int_str
theorem cb_dm : CallR X (.builtin "divmod") rDm := call_divmodW
variable {σ : L2.St} {H : Hp} {Q : VK} {a b z : Str} {i j : Int} {c : Nat} {lo hi : Option Int} {x : V}
theorem w_addS (h : a.length + b.length ≤ sizeLine) (q : Q (.str (a ++ b)) H) : rAddS (.str a) (.str b) H Q := ⟨a, b, rfl, rfl, h, q⟩
theorem w_slS (h : z.length ≤ sizeLine) (q : Q (.str (cutS z lo hi)) H) : rSlS (.str z) lo hi H Q := ⟨z, rfl, h, q⟩
theorem w_ixS (h : z.length ≤ sizeLine) (e : atI z.cps.toList i = some c) (q : Q (.str ⟨#[c]⟩) H) : rIxS (.str z) (.int i) H Q := ⟨z, i, c, rfl, rfl, h, e, q⟩
theorem w_notInS (q : Q (.bl (!decide (c ∈ z.cps.toList))) H) : rNotInS (.str ⟨#[c]⟩) (.str z) H Q := ⟨c, z, rfl, rfl, q⟩
theorem w_split (hb : (b.length == 0) = false) (hz : a.length + 2 ≤ sizeLine) (q : ∀ p H', H p = none → Ch [] H H' → H' p = some (.lst ((Txt.split a b).map V.str)) → Q (.ref p) H') : rSplit (.str a) [.str b] H Q := ⟨a, b, rfl, rfl, hb, hz, w_new q⟩
theorem w_partS (hb : (b.length == 0) = false) (hz : a.length ≤ sizeLine) (q : ∀ p H', H p = none → Ch [] H H' → H' p = some (.tup [.str (Txt.partition a b).1, .str (Txt.partition a b).2.1, .str (Txt.partition a b).2.2]) → Q (.ref p) H') : rPart (.str a) [.str b] H Q := ⟨a, b, rfl, rfl, hb, hz, w_new q⟩
theorem w_join {p : Addr} {ys : List Str} (h : SqL K H p (ys.map V.str)) (hz : (ys.map (·.length)).sum + ys.length * a.length ≤ 16777216) (q : Q (.str (Txt.join a ys)) H) : rJoin K (.str a) [.ref p] H Q := ⟨a, p, ys, rfl, rfl, .inl h, hz, q⟩
theorem w_zfill (h : PadOk i = true) (q : Q (.str (Txt.zfill a i)) H) : rZfill (.str a) [.int i] H Q := ⟨a, i, rfl, rfl, h, q⟩
theorem w_starts (q : Q (.bl (Txt.startswith a b)) H) : rStarts (.str a) [.str b] H Q := ⟨a, b, rfl, rfl, q⟩
theorem w_lenS (h : z.length ≤ sizeLine) (q : Q (.int z.length) H) : rLenS [.str z] H Q := ⟨z, rfl, h, q⟩
theorem w_strI (h : i.natAbs < 2 ^ 1900) (q : Q (.str (S (intL i))) H) : rStrI [.int i] H Q := ⟨i, rfl, Nat.lt_trans (PySem.Flt.log2_lt_of (by decide) h) (by decide), by rw [str_int]; exact q⟩
theorem w_intS {n : Int} (h : PySem.intText? a = some n) (hl : a.length ≤ 640) (q : Q (.int n) H) : rIntS [.str a] H Q := ⟨a, n, rfl, h, hl, q⟩
theorem w_intD {l : List Nat} (h : AllDigits l) (hn : l ≠ []) (hl : l.length ≤ 640) (q : Q (.int (dv l : Nat)) H) : rIntS [.str (S l)] H Q :=
  w_intS (SX.int_S (all_dig.mpr h) hn (by omega)) (by rw [S_len]; exact hl) q
theorem w_dm (h : 0 < j) (hb : j.natAbs < 2 ^ 9000) (q : ∀ p H', H p = none → Ch [] H H' → H' p = some (.tup [.int (i / j), .int (i % j)]) → Q (.ref p) H') : rDm [.int i, .int j] H Q := ⟨i, j, rfl, ⟨h, PyProof.noPylong_of_log2 (PySem.Flt.log2_lt_of (by decide) hb)⟩, w_new q⟩
theorem w_eqS (q : Q (.bl (decide (a = b))) H) : rEq (.str a) (.str b) H Q := ⟨rfl, by
  have e : decide (V.str a = V.str b) = decide (a = b) := by rw [decide_eq_decide]; exact ⟨V.str.inj, congrArg V.str⟩
  rw [e]
  exact q⟩
theorem w_neS (q : Q (.bl (!decide (a = b))) H) : rNe (.str a) (.str b) H Q := ⟨rfl, by
  have e : decide (V.str a = V.str b) = decide (a = b) := by rw [decide_eq_decide]; exact ⟨V.str.inj, congrArg V.str⟩
  rw [e]
  exact q⟩
theorem w_tyS {p : Prop} (h : p) : tyV K "str" (.str a) H ∧ p := ⟨rfl, h⟩
theorem w_asg2 {te : TE} {g1 g2 : TG} {N B C : L2.St → Hp → Prop} {R : VK} (h : te σ H fun x H1 => g1 x σ H1 fun σ1 H2 => g2 x σ1 H2 N) : tAsg2 te g1 g2 ⟨N, R, B, C⟩ σ H := h
theorem w_iS {te : TE} {R : It → Hp → Prop} (h : te σ H fun v H1 => ∃ x, v = .str x ∧ R (Its x) H1) : iStr te σ H R := h
theorem w_iSr {R : Str → Prop} (q : R a) : ∃ x, V.str a = .str x ∧ R x := ⟨a, rfl, q⟩
/-- for sign in a text -/
theorem for_S {N : L2.St → Hp → Prop} {R : VK} {g : TG} {tb : TS} {l : List Nat} (Pv : Nat → L2.St → Hp → Prop) (h0 : Pv 0 σ H) (hs : ∀ i c σ H, l[i]? = some c → Pv i σ H → g (.str ⟨#[c]⟩) σ H fun σ2 H2 => tb ⟨Pv (i + 1), R, N, Pv (i + 1)⟩ σ2 H2) (hd : ∀ σ H, Pv l.length σ H → N σ H) : ForG (Its (S l)) g tb N R σ H := by
  have e : (S l).cps.size = l.length := by simp [S]
  refine for_w (walk_str (z := S l)) Pv h0 (fun _ _ _ _ _ => trivial) (fun i x σ H H' hi hp y => ?_) (by rw [e]; exact hd)
  obtain ⟨rfl, c, hc, rfl⟩ := y
  refine hs i c σ _ ?_ hp
  rw [List.getElem?_toArray] at hc
  exact hc
theorem lit_empty : (Str.ofString "") = S [] := by decide +kernel
theorem lit_minus : (Str.ofString "-") = S [45] := by decide +kernel
theorem lit_slash : (Str.ofString "/") = S [47] := by decide +kernel
theorem lit_dot : (Str.ofString ".") = S [46] := by decide +kernel
theorem lit_zero : (Str.ofString "0") = S [48] := by decide +kernel
theorem lit_one : (Str.ofString "1") = S [49] := by decide +kernel
theorem lit_digits : (Str.ofString "0123456789") = S [48, 49, 50, 51, 52, 53, 54, 55, 56, 57] := by decide +kernel
theorem in_digits {c : Nat} : decide (c ∈ (S [48, 49, 50, 51, 52, 53, 54, 55, 56, 57]).cps.toList) = digB c := by
  show decide (c ∈ [48, 49, 50, 51, 52, 53, 54, 55, 56, 57]) = digB c
  rw [Bool.eq_iff_iff, decide_eq_true_iff]
  unfold digB
  rw [Bool.and_eq_true, decide_eq_true_eq, decide_eq_true_eq]
  simp only [List.mem_cons, List.not_mem_nil, or_false]
  omega
theorem S_eq {l m : List Nat} : decide (S l = S m) = decide (l = m) := by rw [decide_eq_decide]; exact ⟨S_inj, congrArg S⟩
end
end My
/-! an own class with methods, static methods and operators -/
namespace My
open PySem PySem.Spec PyProof.Rows L2
/-- a method that may be called; what it lets out is told by the promise -/
structure CalM (P : Program) (w : World) (K : PySem.W.Frag) (mg : Str → Option Value) (base : Heap) (k : Nat) (C : Addr) (m : Str) (sp : Sp) : Prop where
  ex : ∃ (f : Addr) (fd : FuncData) (ps : List Str), FnOk P w K mg base (L2.CX P w) k f fd ps sp ∧ Meth K C m f ∧ Binds K fd ps []
/-- a method under its class -/
structure DefM (K : PySem.W.Frag) (C : Addr) (m q : Str) (st : Stmt) (ps : List Str) (f : Addr) (fd : FuncData) : Prop where
  fn : Fun K m q st f fd
  me : Meth K C m f
  bi : Binds K fd ps []
section
variable {P : Program} {w : World} {K : PySem.W.Frag} {mg : Str → Option Value} {base : Heap} {C : Addr}
theorem calM_of {m q : Str} {st : Stmt} {f : Addr} {fd : FuncData} {N ps : List Str} {k : Nat} {sp : Sp} (F : DefM K C m q st ps f fd) (S : FnScope N ps (defScope st)) (len : ∀ vs H Q E, sp vs H Q E → vs.length = ps.length)
    (hbody : ∀ (cdv : Value) (A : Around) (outer : List Env) (s : Shared) (H : Hp) (vs : List V) (Q : VK) (E : XK), Room k (A.deeper (envOfC q (defScope st) s.heap.objs.size f cdv)) → sp vs H Q E →
      ∃ t, PSs (cxOf (L2.CX P w) P w K mg base N q (defScope st) f cdv A outer s H E).nox (defBody st) t ∧ t { nx := fun _ H' => Q .non H', rt := Q } (start N vs) H) : CalM P w K mg base (k + 1) C m sp :=
  ⟨f, fd, ps, F.fn.okX S len fun cdv A outer s H vs Q E hr h => let ⟨t, h1, h2⟩ := hbody cdv A outer s H vs Q E hr h; ⟨t, h1.nox, h2⟩, F.me, F.bi⟩
theorem calM_ofX {m q : Str} {st : Stmt} {f : Addr} {fd : FuncData} {N ps : List Str} {k : Nat} {sp : Sp} (F : DefM K C m q st ps f fd) (S : FnScope N ps (defScope st)) (len : ∀ vs H Q E, sp vs H Q E → vs.length = ps.length)
    (hbody : ∀ (cdv : Value) (A : Around) (outer : List Env) (s : Shared) (H : Hp) (vs : List V) (Q : VK) (E : XK), Room k (A.deeper (envOfC q (defScope st) s.heap.objs.size f cdv)) → sp vs H Q E →
      ∃ t, PSs (cxOf (L2.CX P w) P w K mg base N q (defScope st) f cdv A outer s H E) (defBody st) t ∧ t { nx := fun _ H' => Q .non H', rt := Q } (start N vs) H) : CalM P w K mg base (k + 1) C m sp :=
  ⟨f, fd, ps, F.fn.okX S len hbody, F.me, F.bi⟩
end
section
variable {X : Cx} {k j : Nat} {m : Str} {C : Addr} {sp : Sp} {apos pos : Pos} {o e : Expr} {es : List Expr} {t : TA} {ta : TE}
/-- o.m(e, ..), nothing is let out -/
theorem pe_mm {pl : Sem Bool} (hc : Cls X.K C) (c : CalM X.prog X.w X.K X.mg X.base k C m sp) (hr : Room j X.A) (hk : k ≤ j) (ho : PE X o ta) (ha : PA X (e :: es) t)
    (hst : starEach (e :: es) X.env = (false, eval e X.env) :: starEach es X.env := by rfl) (hpl : (backTo pos (starEach es X.env)).any (·.1) = false := by rfl)
    (ht : eval (.Call (.Attribute o m apos) (e :: es) [] pos) X.env = (do
      let ov ← eval o X.env
      standAt apos.atName
      let (f, first) ← holding [ov] (getMethod ov m pl)
      callWith pos f first (backTo pos (starEach (e :: es) X.env)) (backToKw pos (keywordEach [] X.env))) := by rfl) :
    PE X (.Call (.Attribute o m apos) (e :: es) [] pos) (tMeth C m sp [] E0 ta t) := by
  obtain ⟨f, fd, ps, F, hm, b⟩ := c.ex
  exact pe_meth ho hc hm F (hr.mono hk) b .nil passL ha hst hpl ht
theorem pe_mm0 {pl : Sem Bool} (hc : Cls X.K C) (c : CalM X.prog X.w X.K X.mg X.base k C m sp) (hr : Room j X.A) (hk : k ≤ j) (ho : PE X o ta)
    (ht : eval (.Call (.Attribute o m apos) [] [] pos) X.env = (do
      let ov ← eval o X.env
      standAt apos.atName
      let (f, first) ← holding [ov] (getMethod ov m pl)
      callWith pos f first (backTo pos (starEach [] X.env)) (backToKw pos (keywordEach [] X.env))) := by rfl) :
    PE X (.Call (.Attribute o m apos) [] [] pos) (tMeth C m sp [] E0 ta tNil) := by
  obtain ⟨f, fd, ps, F, hm, b⟩ := c.ex
  exact pe_meth0 ho hc hm F (hr.mono hk) b .nil passL ht
/-! ### operators -/
/-- two instances of C -/
def rOwn2 (C : Addr) (sp : Sp) : R2 := fun x y H Q => ∃ a b dx dy fs gs, x = .ref a ∧ y = .ref b ∧ H a = some (.ins C dx fs) ∧ H b = some (.ins C dy gs) ∧ sp [x, y] H Q E0
theorem op_own {op : Operator} {nm : Str} (c : CalM X.prog X.w X.K X.mg X.base k C nm sp) (hn : PySem.dunder op.info.2 = nm) (hf : PySem.W.selfFirst X.K C = true) (hr : Room j X.A) (hk : k ≤ j) : OpR X (binaryOp op) (rOwn2 C sp) := by
  intro pins s σ H x y v u Q I rx ry hq
  obtain ⟨a, b, dx, dy, fs, gs, rfl, rfl, ha, hb, h⟩ := hq
  cases rx
  cases ry
  obtain ⟨f, fd, ps, F, hm, bi⟩ := c.ex
  obtain ⟨mA, J, _⟩ := ins_get I.hok ha
  obtain ⟨mB, J', _⟩ := ins_get I.hok hb
  obtain ⟨od, J, _⟩ := J.look
  obtain ⟨od', J', _⟩ := J'.look
  obtain ⟨m, hF⟩ := I.fr
  subst hn
  refine PySem.W.binop_K hF I.ok.mod.kin J J'.type hf hm.at_ hm.fn ?_
  have z := run_fn (us := [.ref a, .ref b]) (vs := [.ref a, .ref b]) (dvs := []) F (hr.mono hk) bi .nil (passL (X := X)) I (.cons rfl (.cons rfl .nil)) h
  refine wpAny_mono z (fun r s' q => ?_) fun _ _ e => e
  obtain ⟨zv, H', I', rz, qz⟩ := q
  have q' : EP X pins σ Q r s' := ⟨zv, H', I', rz, qz⟩
  cases zv <;> (first | (cases rz; exact q') | (obtain ⟨t, e⟩ := rz; subst e; exact q'))
def rOwn1 (C : Addr) (sp : Sp) : V → Hp → VK → Prop := fun x H Q => ∃ a dx fs, x = .ref a ∧ H a = some (.ins C dx fs) ∧ sp [x] H Q E0
theorem un_own (c : CalM X.prog X.w X.K X.mg X.base k C "__neg__" sp) (hr : Room j X.A) (hk : k ≤ j) : UnR X (unaryOp .USub) (rOwn1 C sp) := by
  intro pins s σ H x v Q I rx hq
  obtain ⟨a, dx, fs, rfl, ha, h⟩ := hq
  cases rx
  obtain ⟨f, fd, ps, F, hm, bi⟩ := c.ex
  obtain ⟨mA, J, _⟩ := ins_get I.hok ha
  obtain ⟨od, J, _⟩ := J.look
  obtain ⟨m, hF⟩ := I.fr
  exact PySem.W.ksp_neg hF I.ok.mod.kin J hm.at_ hm.fn (run_fn (us := [.ref a]) (vs := [.ref a]) (dvs := []) F (hr.mono hk) bi .nil (passL (X := X)) I (.cons rfl .nil) h)
/-- x == y for an instance x of C: y of any kind whose class is none of C's -/
def rOwnEq (K : PySem.W.Frag) (C : Addr) (sp : Sp) : R2 := fun x y H Q => ∃ a dx fs ty, x = .ref a ∧ H a = some (.ins C dx fs) ∧ TyOf K H y ty ∧ PySem.W.notFirst K C ty = true ∧ sp [x, y] H Q E0
theorem tyOf_type {pins : List (Addr × Obj)} {σ : L2.St} {H : Hp} {s : Shared} {y : V} {u ty : Value} (I : Inv X pins σ H s) (ry : RelV y u) (t : TyOf X.K H y ty) : PySem.W.Looks (model X.prog X.w) s.heap (typeOf u) ty := by
  cases t with
  | non => cases (show u = Value.none from ry); exact PySem.W.Looks.of_pure rfl
  | bl x => cases (show u = Value.bool x from ry); exact PySem.W.Looks.of_pure rfl
  | int i => obtain ⟨t, e⟩ := (show ∃ t, u = Value.int i t from ry); subst e; exact PySem.W.Looks.of_pure rfl
  | str x => obtain ⟨t, e⟩ := (show ∃ t, u = Value.str x t from ry); subst e; exact PySem.W.Looks.of_pure rfl
  | flt x => obtain ⟨t, e⟩ := (show ∃ t, u = Value.float x t from ry); subst e; exact PySem.W.Looks.of_pure rfl
  | ins e =>
    cases ry
    obtain ⟨mB, J', _⟩ := ins_get I.hok e
    obtain ⟨od', J', _⟩ := J'.look
    exact J'.type
  | @lst a xs ea =>
    cases (show u = Value.ref a from ry)
    obtain ⟨_, _, n, _, h1⟩ := (show ObjOk X.prog X.w H s.heap a (.lst xs) from I.hok a _ ea)
    exact PySem.W.kitAt_ty _ _ ⟨_, h1, rfl⟩
  | @frz a ob xs ea =>
    cases (show u = Value.ref a from ry)
    obtain ⟨_, _, _, n, _, h1⟩ := (show ObjOk X.prog X.w H s.heap a (.frz ob (.lst xs)) from I.hok a _ ea)
    exact PySem.W.kitAt_ty _ _ ⟨_, h1, rfl⟩
  | @tup a xs ea =>
    cases (show u = Value.ref a from ry)
    obtain ⟨_, _, _, o, h1, h2, _⟩ := (show ObjOk X.prog X.w H s.heap a (.tup xs) from I.hok a _ ea)
    exact PySem.W.kitAt_ty _ _ ⟨o, h1, h2⟩
  | @dK a kvs ea =>
    cases (show u = Value.ref a from ry)
    obtain ⟨_, _, vs, _, o, es, ep, h1, h2, _⟩ := (show ObjOk X.prog X.w H s.heap a (.dK kvs) from I.hok a _ ea)
    exact PySem.W.kitAt_ty _ _ ⟨o, h1, h2.1⟩
  | @dT a kvs ea =>
    cases (show u = Value.ref a from ry)
    obtain ⟨_, _, xs, _, o, es, ep, h1, h2, _⟩ := (show ObjOk X.prog X.w H s.heap a (.dT kvs) from I.hok a _ ea)
    exact PySem.W.kitAt_ty _ _ ⟨o, h1, h2.1⟩
theorem op_eqOwn (c : CalM X.prog X.w X.K X.mg X.base k C "__eq__" sp) (hr : Room j X.A) (hk : k ≤ j) : OpR X (compareOp .Eq) (rOwnEq X.K C sp) := by
  intro pins s σ H x y v u Q I rx ry hq
  obtain ⟨a, dx, fs, ty, rfl, ha, ht, hn, h⟩ := hq
  cases rx
  obtain ⟨f, fd, ps, F, hm, bi⟩ := c.ex
  obtain ⟨mA, J, _⟩ := ins_get I.hok ha
  obtain ⟨od, J, _⟩ := J.look
  obtain ⟨m, hF⟩ := I.fr
  show wpAny (model X.prog X.w) X.A (richCompare .Eq (.ref a) u) (EP X pins σ Q) X.xe s
  refine PySem.W.cmp_K (op := .Eq) hr.units0 hF I.ok.mod.kin J (tyOf_type I ry ht) hn hm.at_ hm.fn ?_
  have z := run_fn (us := [.ref a, u]) (vs := [.ref a, y]) (dvs := []) F (hr.mono hk) bi .nil (passL (X := X)) I (.cons rfl (.cons ry .nil)) h
  refine wpAny_mono z (fun r s' q => ?_) fun _ _ e => e
  obtain ⟨zv, H', I', rz, qz⟩ := q
  have q' : EP X pins σ Q r s' := ⟨zv, H', I', rz, qz⟩
  cases zv <;> (first | (cases rz; exact q') | (obtain ⟨t, e⟩ := rz; subst e; exact q'))
/-! ### static methods, read off the class -/
structure SMet (K : PySem.W.Frag) (C : Addr) (mc : Value) (m : Str) (p g : Addr) : Prop where
  at_ : PySem.W.findCls K (.ref C) mc m = some (.get (.builtin "staticmethod.__get__") (.ref p) .none (.ref C))
  rc : ∃ rest, PySem.W.recIn K p "staticmethod" = some (.ref g :: rest)
  kp : PySem.W.keepIn K (.ref g) = true
structure CalS (P : Program) (w : World) (K : PySem.W.Frag) (mg : Str → Option Value) (base : Heap) (k : Nat) (C : Addr) (m : Str) (sp : Sp) : Prop where
  ex : ∃ (f p : Addr) (mc : Value) (fd : FuncData) (ps : List Str), FnOk P w K mg base (L2.CX P w) k f fd ps sp ∧ ClX.CRead K C mc ∧ SMet K C mc m p f ∧ Binds K fd ps []
def tSMeth (C : Addr) (sp : Sp) (E : XK) (ta : TE) (t : TA) : TE := fun σ H Q => ta σ H fun x H1 => x = .ref C ∧ t σ H1 fun vs H2 => sp (vs ++ []) H2 Q E
theorem pe_sm {pl : Sem Bool} (c : CalS X.prog X.w X.K X.mg X.base k C m sp) (hr : Room j X.A) (hk : k ≤ j) (ho : PE X o ta) (ha : PA X (e :: es) t)
    (hst : starEach (e :: es) X.env = (false, eval e X.env) :: starEach es X.env := by rfl) (hpl : (backTo pos (starEach es X.env)).any (·.1) = false := by rfl)
    (ht : eval (.Call (.Attribute o m apos) (e :: es) [] pos) X.env = (do
      let ov ← eval o X.env
      standAt apos.atName
      let (f, first) ← holding [ov] (getMethod ov m pl)
      callWith pos f first (backTo pos (starEach (e :: es) X.env)) (backToKw pos (keywordEach [] X.env))) := by rfl) :
    PE X (.Call (.Attribute o m apos) (e :: es) [] pos) (tSMeth C sp E0 ta t) := by
  obtain ⟨f, p, mc, fd, ps, F, r, sm, b⟩ := c.ex
  refine ⟨fun pins s σ H Q I h => ?_⟩
  refine PySem.W.methodCall_KW (pl := pl) (thn (ho.run pins s σ H _ I h) fun u s1 ⟨x, H1, I1, rx, ex, q⟩ => ?_) ht
  subst ex
  obtain rfl : u = Value.ref C := rx
  obtain ⟨rest, hp⟩ := sm.rc
  refine PySem.W.method_cls I1.kIn r.ga (PySem.W.cls_bind I1.kIn r.rd sm.at_ (wpAny_call (PySem.W.sm_get (s := { s1 with toks := s1.toks + 1 }) I1.kIn hp (PySem.W.handed_on rfl ?_))))
  have I2 : Inv X pins σ H1 { s1 with toks := s1.toks + 1 } := I1.tok _
  refine PySem.W.callWith_K (first := []) (h₀ := X.base) I1.ok.mod.kin sm.kp (thn (ha.run pos pins _ σ H1 _ I2 q) fun us s2 ⟨vs, H2, I3, r2, q2⟩ => ⟨I3.kIn, ?_⟩) hst hpl
  exact run_fn F (hr.mono hk) b .nil (passL (X := X)) I3 r2 q2
end
end My
/-! sorted(xs, reverse=True), xs tuples of ints of any number -/
namespace SrtT
open PySem PyProof.Rows
/-- tuples of ints as Python orders them -/
def lexF : List Int → List Int → Bool
  | [], [] => false
  | [], _ :: _ => true
  | _ :: _, [] => false
  | x :: xs, y :: ys => if x = y then lexF xs ys else decide (x < y)
theorem lexF_cons (x y : Int) (xs ys : List Int) : lexF (x :: xs) (y :: ys) = if x = y then lexF xs ys else decide (x < y) := rfl
theorem lexF_asym : ∀ xs ys : List Int, lexF xs ys = true → lexF ys xs = false
  | [], [], h => by cases h
  | [], _ :: _, _ => rfl
  | _ :: _, [], h => by cases h
  | x :: xs, y :: ys, h => by
    rw [lexF_cons] at h ⊢
    by_cases e : x = y
    · rw [if_pos e] at h
      rw [if_pos e.symm]
      exact lexF_asym xs ys h
    · rw [if_neg e, decide_eq_true_eq] at h
      rw [if_neg (fun z => e z.symm), decide_eq_false_iff_not]
      omega
theorem lexF_eq : ∀ xs ys : List Int, lexF xs ys = false → lexF ys xs = false → xs = ys
  | [], [], _, _ => rfl
  | [], _ :: _, h, _ => by cases h
  | _ :: _, [], _, h => by cases h
  | x :: xs, y :: ys, h, h' => by
    rw [lexF_cons] at h h'
    by_cases e : x = y
    · rw [if_pos e] at h
      rw [if_pos e.symm] at h'
      rw [e, lexF_eq xs ys h h']
    · rw [if_neg e, decide_eq_false_iff_not] at h
      rw [if_neg (fun z => e z.symm), decide_eq_false_iff_not] at h'
      omega
theorem lexF_tr : ∀ xs ys zs : List Int, lexF ys xs = false → lexF zs ys = false → lexF zs xs = false
  | [], [], _, _, h => h
  | [], _ :: _, [], _, _ => rfl
  | [], _ :: _, _ :: _, _, _ => rfl
  | _ :: _, [], _, h, _ => by cases h
  | _ :: _, _ :: _, [], _, h => by cases h
  | x :: xs, y :: ys, z :: zs, h, h' => by
    rw [lexF_cons] at h h' ⊢
    by_cases e : y = x
    · rw [if_pos e] at h
      by_cases e' : z = y
      · rw [if_pos e'] at h'
        rw [if_pos (e'.trans e)]
        exact lexF_tr xs ys zs h h'
      · rw [if_neg e', decide_eq_false_iff_not] at h'
        rw [if_neg (fun q => e' (q.trans e.symm)), decide_eq_false_iff_not]
        omega
    · rw [if_neg e, decide_eq_false_iff_not] at h
      by_cases e' : z = y
      · rw [if_neg (fun q => e (e'.symm.trans q)), decide_eq_false_iff_not]
        omega
      · rw [if_neg e', decide_eq_false_iff_not] at h'
        rw [if_neg (by omega), decide_eq_false_iff_not]
        omega
theorem swo_lexF {α : Type} (k : α → List Int) : SrtO.Swo fun x y => lexF (k x) (k y) := ⟨fun x y => lexF_asym _ _, fun x y z => lexF_tr _ _ _⟩
section
variable {prog : Program} {w : World} {A : Around} {E : Value → Shared → Prop} {s : Shared}
theorem lex_run {Q : Bool → Shared → Prop} : ∀ {xs ys : List Int} {us vs : List Value} (fin : Bool) (i : Nat), IntsAre us xs → IntsAre vs ys → (fin = true ↔ us.length < vs.length) → Q (lexF xs ys) s → PySem.W.KatLex prog w A true fin Q (us.zip vs) i s
  | [], [], _, _, fin, i, .nil, .nil, hf, q => by
    have e : fin = false := Bool.eq_false_iff.mpr fun z => absurd (hf.mp z) (by simp)
    subst e
    exact PySem.W.kat_nil q
  | [], _ :: _, _, _, fin, i, .nil, .cons _ _ _, hf, q => by
    have e : fin = true := hf.mpr (by simp)
    subst e
    exact PySem.W.kat_nil q
  | _ :: _, [], _, _, fin, i, .cons _ _ _, .nil, hf, q => by
    have e : fin = false := Bool.eq_false_iff.mpr fun z => absurd (hf.mp z) (by simp)
    subst e
    rw [List.zip_nil_right]
    exact PySem.W.kat_nil q
  | x :: xs, y :: ys, _, _, fin, i, .cons _ t hu, .cons _ u hv, hf, q => by
    rw [lexF_cons] at q
    rw [List.zip_cons_cons]
    refine PySem.W.kat_cons (SeqAt.EqAt.int_int x t y u prog w _ _ ?_)
    refine PySem.W.kat_go (fun e1 => ?_) (fun e1 => ?_)
    · have ex : x = y := by simpa using e1
      rw [if_pos ex] at q
      exact PySem.W.kat_yes (lex_run fin (i + 1) hu hv (by rw [hf, List.length_cons, List.length_cons]; omega) q)
    · have ex : ¬ x = y := by simpa using e1
      rw [if_neg ex] at q
      exact PySem.W.kat_no (TS.oneLt_ints _ q)
theorem tup_cmp {vs : List Value} {k : Value → List Int} (hp : ∀ v ∈ vs, TS.TupInts s.heap v (k v)) : SrtO.Cmp prog w A s (tuples' true) (fun p => p.1 ∈ vs) (SrtO.lt2 fun v u => lexF (k v) (k u)) := by
  intro p q hm hm'
  obtain ⟨a, xs, e, ⟨o, ho, hc, n, hd⟩, hi⟩ := hp _ hm
  obtain ⟨b, ys, e', ⟨o', ho', hc', n', hd'⟩, hi'⟩ := hp _ hm'
  show wpAny (model prog w) A (keyLt' (tuples' true) p.1 q.1) (fun r s' => s' = s ∧ r = lexF (k p.1) (k q.1)) (fun _ _ => False) s
  generalize k p.1 = x at hi ⊢
  generalize k q.1 = y at hi' ⊢
  rw [e, e']
  refine PySem.W.kat_lt ho hd ho' hd' ?_
  exact lex_run _ 0 hi hi' (by rw [decide_eq_true_eq, Array.length_toList, Array.length_toList]) ⟨rfl, rfl⟩
theorem firsts_ne {h : Heap} {k : Value → List Int} : ∀ vs : List Value, (∀ v ∈ vs, TS.TupInts h v (k v) ∧ k v ≠ []) → ∃ fs, PySem.W.KatTups h vs fs ∧ fs.length = vs.length ∧ ∀ f, f ∈ fs → ∃ n t, f = Value.int n t
  | [], _ => ⟨[], PySem.W.KatTups.nil, rfl, fun f hf => by simp at hf⟩
  | v :: vs, x => by
    obtain ⟨fs, kt, hl, hi⟩ := firsts_ne vs fun u hu => x u (List.mem_cons_of_mem _ hu)
    obtain ⟨⟨a, xs, e0, ⟨o, ho, hc, n, hdt⟩, i⟩, hn⟩ := x v (List.mem_cons_self ..)
    obtain ⟨y, ys, e⟩ : ∃ y ys, xs.toList = y :: ys := by
      cases q : xs.toList with
      | nil =>
        rw [q] at i
        have l := i.length
        rw [List.length_nil] at l
        exact absurd (List.eq_nil_of_length_eq_zero l.symm) hn
      | cons y ys => exact ⟨y, ys, rfl⟩
    obtain ⟨m, t, hy⟩ := i.all y (by rw [e]; exact List.mem_cons_self ..)
    rw [e0]
    refine ⟨y :: fs, PySem.W.KatTups.cons ho hc hdt ?_ kt, by simp [hl], ?_⟩
    · have z := congrArg (fun l : List Value => l[0]?) e
      simpa using z
    · intro f hf
      rcases List.mem_cons.mp hf with rfl | hf
      · exact ⟨m, t, hy⟩
      · exact hi f hf
theorem tups_sortable {a : Addr} {vs : List Value} {k : Value → List Int} (h0 : 0 < vs.length) (hp : ∀ v ∈ vs, TS.TupInts s.heap v (k v) ∧ k v ≠ []) (ha : ∀ o, s.heap.get? a = some o → o.cls ≠ .type "tuple") : SrtO.SortableO prog w A s a vs fun v u => lexF (k v) (k u) := by
  intro h' keep
  have hp' : ∀ v ∈ vs, TS.TupInts h' v (k v) ∧ k v ≠ [] := fun v hm => ⟨(hp v hm).1.keeps fun b o e c => keep b o (fun z => by subst z; exact ha o e c) e, (hp v hm).2⟩
  obtain ⟨fs, h1, h2, h3⟩ := firsts_ne vs hp'
  refine ⟨tuples' true, fun Q E hq => ?_, tup_cmp fun v hm => (hp' v hm).1⟩
  refine PySem.W.kat_kind (T := .type "int") h1 (by omega) (fun f hm => ?_) (by rfl) ?_
  · obtain ⟨x, t, rfl⟩ := h3 f hm
    exact PySem.W.Looks.now
  · have e : (Value.type "int" != Value.type "tuple") = true := by first | decide +kernel | rfl | decide
    rw [e]
    exact hq
end
end SrtT
namespace My
open PySem PySem.Spec PyProof.Rows L2
/-- sorted(xs, reverse=True), xs a list of tuples of ints (k tells which): a new list, falling -/
def rSortTR (K : PySem.W.Frag) : List V → List V → Hp → VK → Prop := fun vs zs H Q => ∃ (a : Addr) (xs : List V) (k : V → List Int), vs = [V.ref a] ∧ zs = [.bl true] ∧ SqL K H a xs ∧ (∀ x ∈ xs, ∃ t, x = V.ref t ∧ SqT K H t ((k x).map V.int) ∧ k x ≠ []) ∧
  ∀ (ys : List V) (p : Addr), ys.Perm xs → ys.Pairwise (fun x y => SrtT.lexF (k x) (k y) = false) → H p = none → Q (.ref p) (upd H p (.lst ys))
theorem sortTR_run {X : Cx} {pins : List (Addr × Obj)} {s : Shared} {σ : L2.St} {H : Hp} {a : Addr} {xs : List V} {k : V → List Int} {Q : VK} (I : Inv X pins σ H s) (hs : SqL X.K H a xs) (hx : ∀ x ∈ xs, ∃ t, x = V.ref t ∧ SqT X.K H t ((k x).map V.int) ∧ k x ≠ [])
    (q : ∀ (ys : List V) (p : Addr), ys.Perm xs → ys.Pairwise (fun x y => SrtT.lexF (k x) (k y) = false) → H p = none → Q (.ref p) (upd H p (.lst ys))) :
    wpAny (model X.prog X.w) X.A (call (.builtin "sorted") [.ref a] [(Str.ofString "reverse", .bool true)]) (EP X pins σ Q) X.xe s := by
  obtain ⟨its, rv, hl, hz⟩ := I.list hs
  obtain ⟨e1, e2⟩ := refs_back rv fun x m => by
    obtain ⟨t, e, _⟩ := hx x m
    exact ⟨t, e⟩
  have ht : ∀ v ∈ its, TS.TupInts s.heap v (k (backV v)) ∧ k (backV v) ≠ [] := fun v hv => by
    obtain ⟨t, rfl⟩ := e2 v hv
    have hm : V.ref t ∈ xs := by rw [e1]; exact List.mem_map.mpr ⟨_, hv, rfl⟩
    obtain ⟨t', e, hq, hn⟩ := hx _ hm
    cases e
    obtain ⟨its2, r2, p, _⟩ := I.tuple hq
    exact ⟨⟨t, its2.toArray, rfl, p, r2.ints⟩, hn⟩
  refine SrtR.sorted_ordK (b := true) (kw := [(Str.ofString "reverse", .bool true)]) (ltv := fun v u => SrtT.lexF (k (backV v)) (k (backV u))) (fun _ => rfl) (PyProof.Rows.args_sorted_rev _ _) (fun _ => PyProof.Rows.args_list_sort_rev _ _) (SrtT.swo_lexF _) hl.isList
    (by rw [← rv.length]; exact hz) (fun h2 h₁ a' ha kk => ?_) fun out h1 h2 => ?_
  · refine SrtT.tups_sortable (s := { s with heap := h₁ }) (k := fun v => k (backV v)) (by omega) (fun v hm => ⟨(ht v hm).1.keeps fun b o e _ => (kk b o e).2, (ht v hm).2⟩) fun o e => ?_
    have e' : some o = some (seqObj "list" its.toArray 0) := e.symm.trans ha
    cases e'
    intro c
    exact absurd (Value.type.inj c) (by decide)
  · rw [if_pos rfl] at h2 ⊢
    have hp : out.Perm its := h2.perm.trans (List.reverse_perm _)
    have h3 : ∀ u ∈ out.reverse, ∃ a, u = Value.ref a := fun u hu => e2 u (hp.mem_iff.mp (List.mem_reverse.mp hu))
    obtain ⟨n, hn⟩ := PyProof.Rows.sortedAll_at s.heap its out.toArray.reverse
    have e0 : out.toArray.reverse = out.reverse.toArray := by rw [← List.reverse_toArray]
    have hpy : (out.reverse.map backV).Perm xs := by
      rw [e1]
      exact ((List.reverse_perm _).trans hp).map _
    refine ⟨.ref _, upd H (s.heap.objs.size + 1) (.lst (out.reverse.map backV)), I.laid (t' := s.toks) (fun _ _ => PyProof.Rows.sortedAll_old) (Nat.le_succ _) ⟨?_, out.reverse, n, vals_back h3, by rw [← e0]; exact hn⟩, rfl, q _ _ hpy ?_ (I.hok.fresh (Nat.le_succ _))⟩
    · rw [hpy.length_eq]
      exact hz
    · rw [List.pairwise_map, List.pairwise_reverse]
      exact h1
theorem cr_sortTR {X : Cx} : CallRK X (.builtin "sorted") [Str.ofString "reverse"] (rSortTR X.K) := by
  intro pins s σ H vs zs us ws Q I r rz h
  obtain ⟨a, xs, k, rfl, rfl, hs, hx, q⟩ := h
  obtain rfl := Vals.ref1 r
  obtain ⟨w1, rfl, e1⟩ := vals1 rz
  obtain rfl : w1 = Value.bool true := e1
  exact sortTR_run I hs hx q
end My
/-! terms of polynomials in three unknowns: their sums by exponents, their order; no program in sight -/
namespace My
structure Tm where
  c : Int
  i : Int
  j : Int
  k : Int
deriving DecidableEq
abbrev Ex : Type := Int × Int × Int
def Tm.e (t : Tm) : Ex := (t.i, t.j, t.k)
/-- what a tuple of ints that stands for it holds -/
def Tm.l (t : Tm) : List Int := [t.c, t.i, t.j, t.k]
def exl (e : Ex) : List Int := [e.1, e.2.1, e.2.2]
def exr (e : Ex) : List Int := [e.1 + e.2.1 + e.2.2, e.1, e.2.1, e.2.2]
theorem exl_inj {e f : Ex} (h : exl e = exl f) : e = f := by
  unfold exl at h
  injection h with h1 h
  injection h with h2 h
  injection h with h3 h
  exact Prod.ext h1 (Prod.ext h2 h3)
theorem exr_inj {e f : Ex} (h : exr e = exr f) : e = f := by
  unfold exr at h
  injection h with h0 h
  injection h with h1 h
  injection h with h2 h
  injection h with h3 h
  exact Prod.ext h1 (Prod.ext h2 h3)
theorem Tm.ext' {t u : Tm} (h1 : t.c = u.c) (h2 : t.e = u.e) : t = u := by
  cases t
  cases u
  unfold Tm.e at h2
  injection h2 with h2 h3
  injection h3 with h3 h4
  dsimp only at h1 h2 h3 h4
  subst h1 h2 h3 h4
  rfl
theorem Tm.l_inj {t u : Tm} (h : t.l = u.l) : t = u := by
  cases t
  cases u
  unfold Tm.l at h
  injection h with h1 h
  injection h with h2 h
  injection h with h3 h
  injection h with h4 h
  dsimp only at h1 h2 h3 h4
  subst h1 h2 h3 h4
  rfl
/-- e before f in falling order -/
def After (e f : Ex) : Prop := SrtT.lexF (exr f) (exr e) = true
instance (e f : Ex) : Decidable (After e f) := by unfold After; infer_instance
theorem After.asymm {e f : Ex} (h : After e f) : ¬ After f e := fun z => by
  have := SrtT.lexF_asym _ _ h
  unfold After at z
  rw [this] at z
  cases z
theorem After.irrefl {e : Ex} : ¬ After e e := fun h => h.asymm h
/-- sum of the coefficients at e -/
def cf : List Tm → Ex → Int
  | [], _ => 0
  | t :: ts, e => (if t.e = e then t.c else 0) + cf ts e
theorem cf_nil (e : Ex) : cf [] e = 0 := rfl
theorem cf_cons (t : Tm) (ts : List Tm) (e : Ex) : cf (t :: ts) e = (if t.e = e then t.c else 0) + cf ts e := rfl
theorem cf_append (a b : List Tm) (e : Ex) : cf (a ++ b) e = cf a e + cf b e := by
  induction a with
  | nil => rw [List.nil_append, cf_nil, Int.zero_add]
  | cons t a ih => rw [List.cons_append, cf_cons, cf_cons, ih, Int.add_assoc]
theorem cf_none {ts : List Tm} {e : Ex} (h : ∀ t ∈ ts, t.e ≠ e) : cf ts e = 0 := by
  induction ts with
  | nil => rfl
  | cons t ts ih => rw [cf_cons, if_neg (h t List.mem_cons_self), ih fun u hu => h u (List.mem_cons_of_mem _ hu), Int.zero_add]
theorem cf_ne {ts : List Tm} {e : Ex} (h : cf ts e ≠ 0) : ∃ t ∈ ts, t.e = e := by
  induction ts with
  | nil => exact absurd rfl h
  | cons t ts ih =>
    by_cases q : t.e = e
    · exact ⟨t, List.mem_cons_self, q⟩
    · rw [cf_cons, if_neg q, Int.zero_add] at h
      obtain ⟨u, hu, hq⟩ := ih h
      exact ⟨u, List.mem_cons_of_mem _ hu, hq⟩
theorem cf_perm {a b : List Tm} (h : a.Perm b) (e : Ex) : cf a e = cf b e := by
  induction h with
  | nil => rfl
  | cons x _ ih => rw [cf_cons, cf_cons, ih]
  | swap x y l => rw [cf_cons, cf_cons, cf_cons, cf_cons, ← Int.add_assoc, ← Int.add_assoc, Int.add_comm (if y.e = e then y.c else 0)]
  | trans _ _ h1 h2 => rw [h1, h2]
/-- in falling order, no zero -/
structure Nf (ts : List Tm) : Prop where
  nz : ∀ t ∈ ts, t.c ≠ 0
  fall : ts.Pairwise fun t u => After t.e u.e
theorem Nf.nil : Nf [] := ⟨fun _ h => (nomatch h), .nil⟩
theorem Nf.tail {t : Tm} {ts : List Tm} (h : Nf (t :: ts)) : Nf ts := ⟨fun u hu => h.nz u (List.mem_cons_of_mem _ hu), (List.pairwise_cons.mp h.fall).2⟩
theorem Nf.head {t : Tm} {ts : List Tm} (h : Nf (t :: ts)) : ∀ u ∈ ts, After t.e u.e := (List.pairwise_cons.mp h.fall).1
theorem Nf.ne_head {t : Tm} {ts : List Tm} (h : Nf (t :: ts)) : ∀ u ∈ ts, u.e ≠ t.e := fun u hu q => by
  have := h.head u hu
  rw [q] at this
  exact After.irrefl this
theorem Nf.cf_head {t : Tm} {ts : List Tm} (h : Nf (t :: ts)) : cf (t :: ts) t.e = t.c := by
  rw [cf_cons, if_pos rfl, cf_none h.ne_head, Int.add_zero]
theorem Nf.mem {ts : List Tm} (h : Nf ts) {t : Tm} : t ∈ ts ↔ t.c ≠ 0 ∧ cf ts t.e = t.c := by
  induction ts with
  | nil =>
    constructor
    · intro z; cases z
    · intro ⟨a, b⟩
      rw [cf_nil] at b
      exact absurd b.symm a
  | cons u ts ih =>
    have ih := ih h.tail
    constructor
    · intro m
      refine ⟨h.nz t m, ?_⟩
      rcases List.mem_cons.mp m with rfl | m
      · exact h.cf_head
      · rw [cf_cons, if_neg (fun q => h.ne_head t m q.symm), Int.zero_add]
        exact (ih.mp m).2
    · intro ⟨a, b⟩
      by_cases q : u.e = t.e
      · have := h.cf_head
        rw [q, b] at this
        exact List.mem_cons.mpr (.inl (Tm.ext' this q.symm))
      · rw [cf_cons, if_neg q, Int.zero_add] at b
        exact List.mem_cons_of_mem _ (ih.mpr ⟨a, b⟩)
theorem fall_eq {a b : List Tm} (ha : a.Pairwise fun t u => After t.e u.e) (hb : b.Pairwise fun t u => After t.e u.e) (h : ∀ t, t ∈ a ↔ t ∈ b) : a = b := by
  induction a generalizing b with
  | nil =>
    cases b with
    | nil => rfl
    | cons u b => exact absurd ((h u).mpr List.mem_cons_self) (fun z => nomatch z)
  | cons t a ih =>
    cases b with
    | nil => exact absurd ((h t).mp List.mem_cons_self) (fun z => nomatch z)
    | cons u b =>
      have ha' := List.pairwise_cons.mp ha
      have hb' := List.pairwise_cons.mp hb
      have e : t = u := by
        rcases List.mem_cons.mp ((h t).mp List.mem_cons_self) with q | q
        · exact q
        rcases List.mem_cons.mp ((h u).mpr List.mem_cons_self) with q' | q'
        · exact q'.symm
        exact absurd (ha'.1 u q') (hb'.1 t q).asymm
      subst e
      rw [ih ha'.2 hb'.2 fun x => ?_]
      constructor
      · intro m
        rcases List.mem_cons.mp ((h x).mp (List.mem_cons_of_mem _ m)) with q | q
        · subst q
          exact absurd (ha'.1 x m) After.irrefl
        · exact q
      · intro m
        rcases List.mem_cons.mp ((h x).mpr (List.mem_cons_of_mem _ m)) with q | q
        · subst q
          exact absurd (hb'.1 x m) After.irrefl
        · exact q
/-- the falling list without zeros is told by its sums -/
theorem Nf.eq {a b : List Tm} (ha : Nf a) (hb : Nf b) (h : ∀ e, cf a e = cf b e) : a = b :=
  fall_eq ha.fall hb.fall fun t => by rw [ha.mem, hb.mem, h]
theorem Nf.mem_of {a b : List Tm} (ha : Nf a) (h : ∀ e, cf a e = cf b e) {t : Tm} (m : t ∈ a) : ∃ u ∈ b, u.e = t.e := by
  obtain ⟨z, e⟩ := ha.mem.mp m
  exact cf_ne (by rw [← h, e]; exact z)
/-- sum of sizes -/
def wt : List Tm → Nat
  | [] => 0
  | t :: ts => t.c.natAbs + wt ts
theorem wt_cons (t : Tm) (ts : List Tm) : wt (t :: ts) = t.c.natAbs + wt ts := rfl
theorem wt_append (a b : List Tm) : wt (a ++ b) = wt a + wt b := by
  induction a with
  | nil => rw [List.nil_append]; exact (Nat.zero_add _).symm
  | cons t a ih => rw [List.cons_append, wt_cons, wt_cons, ih, Nat.add_assoc]
theorem wt_mem {ts : List Tm} {t : Tm} (h : t ∈ ts) : t.c.natAbs ≤ wt ts := by
  induction ts with
  | nil => cases h
  | cons u ts ih =>
    rw [wt_cons]
    rcases List.mem_cons.mp h with rfl | h
    · omega
    · have := ih h
      omega
theorem wt_le {ts : List Tm} {z : Nat} (h : ∀ t ∈ ts, t.c.natAbs ≤ z) : wt ts ≤ ts.length * z := by
  induction ts with
  | nil => exact Nat.zero_le _
  | cons u ts ih =>
    rw [wt_cons, List.length_cons, Nat.succ_mul]
    have a := h u List.mem_cons_self
    have b := ih fun t ht => h t (List.mem_cons_of_mem _ ht)
    omega
/-- those at other exponents -/
def off (e : Ex) (ts : List Tm) : List Tm := ts.filter fun t => decide (t.e ≠ e)
theorem off_cons (e : Ex) (t : Tm) (ts : List Tm) : off e (t :: ts) = if t.e = e then off e ts else t :: off e ts := by
  unfold off
  rw [List.filter_cons]
  by_cases q : t.e = e
  · rw [if_pos q, if_neg (by simp [q])]
  · rw [if_neg q, if_pos (by simp [q])]
theorem off_cf (e f : Ex) (ts : List Tm) : cf (off e ts) f = if f = e then 0 else cf ts f := by
  induction ts with
  | nil => rw [show off e [] = [] from rfl, cf_nil, ite_self]
  | cons t ts ih =>
    rw [off_cons]
    by_cases q : t.e = e
    · rw [if_pos q, ih, cf_cons]
      by_cases r : f = e
      · rw [if_pos r, if_pos r]
      · rw [if_neg r, if_neg r, if_neg (fun z => r (z.symm.trans q)), Int.zero_add]
    · rw [if_neg q, cf_cons, ih, cf_cons]
      by_cases r : f = e
      · rw [if_pos r, if_pos r, if_neg (fun z => q (z.trans r)), Int.zero_add]
      · rw [if_neg r, if_neg r]
theorem off_wt (e : Ex) (ts : List Tm) : (cf ts e).natAbs + wt (off e ts) ≤ wt ts := by
  induction ts with
  | nil => exact Nat.le_refl _
  | cons t ts ih =>
    rw [off_cons, cf_cons, wt_cons]
    by_cases q : t.e = e
    · rw [if_pos q, if_pos q]
      omega
    · rw [if_neg q, if_neg q, wt_cons, Int.zero_add]
      omega
theorem off_len (e : Ex) (ts : List Tm) : (off e ts).length + (if cf ts e = 0 then 0 else 1) ≤ ts.length := by
  induction ts with
  | nil => exact Nat.le_refl _
  | cons t ts ih =>
    rw [off_cons, cf_cons, List.length_cons]
    by_cases q : t.e = e
    · rw [if_pos q, if_pos q]
      have a : (off e ts).length ≤ ts.length := by omega
      split <;> omega
    · rw [if_neg q, if_neg q, List.length_cons, Int.zero_add]
      omega
theorem Nf.wt_le {a b : List Tm} (ha : Nf a) (h : ∀ e, cf a e = cf b e) : wt a ≤ wt b := by
  induction a generalizing b with
  | nil => exact Nat.zero_le _
  | cons t a ih =>
    have z : cf b t.e = t.c := by rw [← h, ha.cf_head]
    have y := ih ha.tail (b := off t.e b) fun e => by
      rw [off_cf, ← h, cf_cons]
      by_cases q : e = t.e
      · rw [if_pos q, q, cf_none ha.ne_head]
      · rw [if_neg q, if_neg (fun z => q z.symm), Int.zero_add]
    have x := off_wt t.e b
    rw [z] at x
    rw [wt_cons]
    omega
theorem Nf.len_le {a b : List Tm} (ha : Nf a) (h : ∀ e, cf a e = cf b e) : a.length ≤ b.length := by
  induction a generalizing b with
  | nil => exact Nat.zero_le _
  | cons t a ih =>
    have z : cf b t.e = t.c := by rw [← h, ha.cf_head]
    have y := ih ha.tail (b := off t.e b) fun e => by
      rw [off_cf, ← h, cf_cons]
      by_cases q : e = t.e
      · rw [if_pos q, q, cf_none ha.ne_head]
      · rw [if_neg q, if_neg (fun z => q z.symm), Int.zero_add]
    have x := off_len t.e b
    rw [z, if_neg (ha.nz t List.mem_cons_self)] at x
    rw [List.length_cons]
    omega
/-! ### tables: exponents and what stands there, in the order of their first coming -/
abbrev Tb : Type := List (Ex × Int)
def getT (tb : Tb) (e : Ex) : Option Int := (tb.find? fun p => decide (p.1 = e)).map (·.2)
def get0 (tb : Tb) (e : Ex) : Int := (getT tb e).getD 0
def putT : Tb → Ex → Int → Tb
  | [], e, c => [(e, c)]
  | p :: tb, e, c => if p.1 = e then (p.1, c) :: tb else p :: putT tb e c
def TbOk (tb : Tb) : Prop := tb.Pairwise fun p q => p.1 ≠ q.1
theorem getT_cons (p : Ex × Int) (tb : Tb) (e : Ex) : getT (p :: tb) e = if p.1 = e then some p.2 else getT tb e := by
  unfold getT
  by_cases q : p.1 = e
  · rw [List.find?_cons_of_pos (by simp [q]), if_pos q]
    rfl
  · rw [List.find?_cons_of_neg (by simp [q]), if_neg q]
theorem get0_nil (e : Ex) : get0 [] e = 0 := rfl
theorem get0_cons (p : Ex × Int) (tb : Tb) (e : Ex) : get0 (p :: tb) e = if p.1 = e then p.2 else get0 tb e := by
  unfold get0
  rw [getT_cons]
  split <;> rfl
theorem get0_put (tb : Tb) (e f : Ex) (c : Int) : get0 (putT tb e c) f = if e = f then c else get0 tb f := by
  induction tb with
  | nil => rw [show putT [] e c = [(e, c)] from rfl, get0_cons]
  | cons p tb ih =>
    rw [show putT (p :: tb) e c = if p.1 = e then (p.1, c) :: tb else p :: putT tb e c from rfl]
    by_cases q : p.1 = e
    · rw [if_pos q, get0_cons, get0_cons]
      subst q
      by_cases r : p.1 = f
      · rw [if_pos r, if_pos r]
      · rw [if_neg r, if_neg r, if_neg r]
    · rw [if_neg q, get0_cons, get0_cons, ih]
      by_cases r : p.1 = f
      · rw [if_pos r, if_pos r, if_neg (fun z => q (r.trans z.symm))]
      · rw [if_neg r, if_neg r]
theorem put_keys (tb : Tb) (e : Ex) (c : Int) {p : Ex × Int} (h : p ∈ putT tb e c) : p.1 = e ∨ ∃ q ∈ tb, q.1 = p.1 := by
  induction tb with
  | nil =>
    rcases List.mem_cons.mp h with rfl | h
    · exact .inl rfl
    · cases h
  | cons q tb ih =>
    rw [show putT (q :: tb) e c = if q.1 = e then (q.1, c) :: tb else q :: putT tb e c from rfl] at h
    by_cases z : q.1 = e
    · rw [if_pos z] at h
      rcases List.mem_cons.mp h with rfl | h
      · exact .inl z
      · exact .inr ⟨p, List.mem_cons_of_mem _ h, rfl⟩
    · rw [if_neg z] at h
      rcases List.mem_cons.mp h with rfl | h
      · exact .inr ⟨p, List.mem_cons_self, rfl⟩
      · rcases ih h with y | ⟨y, hy, hq⟩
        · exact .inl y
        · exact .inr ⟨y, List.mem_cons_of_mem _ hy, hq⟩
theorem TbOk.put {tb : Tb} (h : TbOk tb) (e : Ex) (c : Int) : TbOk (putT tb e c) := by
  induction tb with
  | nil => exact List.pairwise_singleton _ _
  | cons q tb ih =>
    have h' := List.pairwise_cons.mp h
    rw [show putT (q :: tb) e c = if q.1 = e then (q.1, c) :: tb else q :: putT tb e c from rfl]
    by_cases z : q.1 = e
    · rw [if_pos z]
      exact List.pairwise_cons.mpr ⟨h'.1, h'.2⟩
    · rw [if_neg z]
      refine List.pairwise_cons.mpr ⟨fun p hp => ?_, ih h'.2⟩
      rcases put_keys tb e c hp with y | ⟨y, hy, hq⟩
      · rw [y]; exact z
      · rw [← hq]; exact h'.1 y hy
theorem TbOk.nil : TbOk [] := List.Pairwise.nil
theorem put_len (tb : Tb) (e : Ex) (c : Int) : (putT tb e c).length ≤ tb.length + 1 := by
  induction tb with
  | nil => exact Nat.le_refl _
  | cons q tb ih =>
    rw [show putT (q :: tb) e c = if q.1 = e then (q.1, c) :: tb else q :: putT tb e c from rfl]
    split
    · simp only [List.length_cons]; omega
    · simp only [List.length_cons]; omega
theorem TbOk.get {tb : Tb} (h : TbOk tb) {p : Ex × Int} (m : p ∈ tb) : getT tb p.1 = some p.2 := by
  induction tb with
  | nil => cases m
  | cons q tb ih =>
    have h' := List.pairwise_cons.mp h
    rw [getT_cons]
    rcases List.mem_cons.mp m with rfl | m
    · rw [if_pos rfl]
    · rw [if_neg (h'.1 p m)]
      exact ih h'.2 m
theorem get0_some {tb : Tb} {e : Ex} (h : get0 tb e ≠ 0) : (e, get0 tb e) ∈ tb := by
  induction tb with
  | nil => exact absurd rfl h
  | cons q tb ih =>
    rw [get0_cons] at h ⊢
    by_cases z : q.1 = e
    · rw [if_pos z] at h ⊢
      rw [← z]
      exact List.mem_cons_self
    · rw [if_neg z] at h ⊢
      exact List.mem_cons_of_mem _ (ih h)
/-- the rows that are kept: sum and exponents -/
def kept (tb : Tb) : List Ex := (tb.filter fun p => decide (p.2 ≠ 0)).map (·.1)
theorem mem_kept {tb : Tb} (h : TbOk tb) {e : Ex} : e ∈ kept tb ↔ get0 tb e ≠ 0 := by
  unfold kept
  rw [List.mem_map]
  constructor
  · rintro ⟨p, hp, rfl⟩
    obtain ⟨m, z⟩ := List.mem_filter.mp hp
    unfold get0
    rw [h.get m]
    simpa using z
  · intro z
    exact ⟨_, List.mem_filter.mpr ⟨get0_some z, by simpa using z⟩, rfl⟩
theorem kept_nodup {tb : Tb} (h : TbOk tb) : (kept tb).Nodup := by
  unfold kept
  rw [List.Nodup, List.pairwise_map]
  exact List.Pairwise.sublist List.filter_sublist h
theorem kept_len (tb : Tb) : (kept tb).length ≤ tb.length := by
  unfold kept
  rw [List.length_map]
  exact List.length_filter_le _ _
/-- rows in falling order, each with what the table holds there -/
theorem in_order {tb : Tb} (h : TbOk tb) {ys : List Ex} (hp : ys.Perm (kept tb)) (hs : ys.Pairwise fun x y => SrtT.lexF (exr x) (exr y) = false) :
    Nf (ys.map fun e => ⟨get0 tb e, e.1, e.2.1, e.2.2⟩) ∧ ∀ e, cf (ys.map fun e => ⟨get0 tb e, e.1, e.2.1, e.2.2⟩) e = get0 tb e := by
  have nd : ys.Nodup := hp.nodup_iff.mpr (kept_nodup h)
  have mem : ∀ e, e ∈ ys ↔ get0 tb e ≠ 0 := fun e => by rw [hp.mem_iff, mem_kept h]
  have fl : ys.Pairwise After := by
    refine List.Pairwise.imp₂ ?_ hs nd
    intro x y h1 h2
    unfold After
    cases q : SrtT.lexF (exr y) (exr x) with
    | true => rfl
    | false => exact absurd (exr_inj (SrtT.lexF_eq _ _ h1 q)) h2
  have n : Nf (ys.map fun e => ⟨get0 tb e, e.1, e.2.1, e.2.2⟩) := by
    refine ⟨fun t ht => ?_, ?_⟩
    · obtain ⟨e, he, rfl⟩ := List.mem_map.mp ht
      exact (mem e).mp he
    · rw [List.pairwise_map]
      exact fl
  refine ⟨n, fun e => ?_⟩
  by_cases q : get0 tb e = 0
  · rw [q]
    refine cf_none fun t ht => ?_
    obtain ⟨f, hf, rfl⟩ := List.mem_map.mp ht
    intro z
    have : f = e := z
    subst this
    exact (mem f).mp hf q
  · exact (n.mem.mp (List.mem_map.mpr ⟨e, (mem e).mpr q, rfl⟩)).2
/-! ### tables that are made -/
/-- terms put, one after another -/
def sets (tb : Tb) (ts : List Tm) : Tb := ts.foldl (fun tb t => putT tb t.e t.c) tb
/-- terms added, f times each -/
def adds (f : Int) (tb : Tb) (ts : List Tm) : Tb := ts.foldl (fun tb t => putT tb t.e (get0 tb t.e + f * t.c)) tb
theorem adds_get (f : Int) (tb : Tb) (ts : List Tm) (e : Ex) : get0 (adds f tb ts) e = get0 tb e + f * cf ts e := by
  induction ts generalizing tb with
  | nil => rw [cf_nil, Int.mul_zero, Int.add_zero]; rfl
  | cons t ts ih =>
    rw [show adds f tb (t :: ts) = adds f (putT tb t.e (get0 tb t.e + f * t.c)) ts from rfl, ih, get0_put, cf_cons]
    by_cases q : t.e = e
    · rw [if_pos q, if_pos q, q, Int.mul_add, Int.add_assoc]
    · rw [if_neg q, if_neg q, Int.zero_add]
theorem adds_ok (f : Int) {tb : Tb} (h : TbOk tb) (ts : List Tm) : TbOk (adds f tb ts) := by
  induction ts generalizing tb with
  | nil => exact h
  | cons t ts ih => exact ih (h.put _ _)
theorem adds_len (f : Int) (tb : Tb) (ts : List Tm) : (adds f tb ts).length ≤ tb.length + ts.length := by
  induction ts generalizing tb with
  | nil => exact Nat.le_refl _
  | cons t ts ih =>
    have a := ih (putT tb t.e (get0 tb t.e + f * t.c))
    have b := put_len tb t.e (get0 tb t.e + f * t.c)
    rw [List.length_cons]
    show (adds f (putT tb t.e (get0 tb t.e + f * t.c)) ts).length ≤ _
    omega
theorem sets_ok {tb : Tb} (h : TbOk tb) (ts : List Tm) : TbOk (sets tb ts) := by
  induction ts generalizing tb with
  | nil => exact h
  | cons t ts ih => exact ih (h.put _ _)
theorem sets_len (tb : Tb) (ts : List Tm) : (sets tb ts).length ≤ tb.length + ts.length := by
  induction ts generalizing tb with
  | nil => exact Nat.le_refl _
  | cons t ts ih =>
    have a := ih (putT tb t.e t.c)
    have b := put_len tb t.e t.c
    rw [List.length_cons]
    show (sets (putT tb t.e t.c) ts).length ≤ _
    omega
theorem sets_get {tb : Tb} {ts : List Tm} (h : ts.Pairwise fun t u => t.e ≠ u.e) (hn : ∀ t ∈ ts, get0 tb t.e = 0) (e : Ex) : get0 (sets tb ts) e = get0 tb e + cf ts e := by
  induction ts generalizing tb with
  | nil => rw [cf_nil, Int.add_zero]; rfl
  | cons t ts ih =>
    have h' := List.pairwise_cons.mp h
    rw [show sets tb (t :: ts) = sets (putT tb t.e t.c) ts from rfl, ih h'.2 fun u hu => ?_, get0_put, cf_cons]
    · by_cases q : t.e = e
      · rw [if_pos q, if_pos q, cf_none fun u hu z => h'.1 u hu (q.trans z.symm), ← q, hn t List.mem_cons_self, Int.add_zero, Int.zero_add]
      · rw [if_neg q, if_neg q, Int.zero_add]
    · rw [get0_put, if_neg (h'.1 u hu)]
      exact hn u (List.mem_cons_of_mem _ hu)
theorem Nf.distinct {ts : List Tm} (h : Nf ts) : ts.Pairwise fun t u => t.e ≠ u.e := h.fall.imp fun {a b} z q => by
  rw [q] at z
  exact After.irrefl z
/-! ### sums, products -/
def Tm.scale (s : Int) (t : Tm) : Tm := ⟨s * t.c, t.i, t.j, t.k⟩
theorem cf_scale (s : Int) (ts : List Tm) (e : Ex) : cf (ts.map (Tm.scale s)) e = s * cf ts e := by
  induction ts with
  | nil => rw [List.map_nil, cf_nil, Int.mul_zero]
  | cons t ts ih =>
    rw [List.map_cons, cf_cons, ih, cf_cons, Int.mul_add]
    congr 1
    show (if t.e = e then s * t.c else 0) = _
    split
    · rfl
    · rw [Int.mul_zero]
theorem wt_scale (s : Int) (ts : List Tm) : wt (ts.map (Tm.scale s)) = s.natAbs * wt ts := by
  induction ts with
  | nil => rfl
  | cons t ts ih =>
    rw [List.map_cons, wt_cons, ih, wt_cons, Nat.mul_add]
    congr 1
    exact Int.natAbs_mul _ _
def Tm.mul (t u : Tm) : Tm := ⟨t.c * u.c, t.i + u.i, t.j + u.j, t.k + u.k⟩
theorem Tm.mul_comm (t u : Tm) : t.mul u = u.mul t := by
  unfold Tm.mul
  rw [Int.mul_comm, Int.add_comm t.i, Int.add_comm t.j, Int.add_comm t.k]
def mulT (a b : List Tm) : List Tm := a.flatMap fun t => b.map t.mul
theorem mulT_cons (t : Tm) (a b : List Tm) : mulT (t :: a) b = b.map t.mul ++ mulT a b := rfl
theorem wt_mul1 (t : Tm) (b : List Tm) : wt (b.map t.mul) = t.c.natAbs * wt b := by
  induction b with
  | nil => rfl
  | cons u b ih =>
    rw [List.map_cons, wt_cons, ih, wt_cons, Nat.mul_add]
    congr 1
    exact Int.natAbs_mul _ _
theorem wt_mul (a b : List Tm) : wt (mulT a b) = wt a * wt b := by
  induction a with
  | nil => exact (Nat.zero_mul _).symm
  | cons t a ih => rw [mulT_cons, wt_append, wt_mul1, ih, wt_cons, Nat.add_mul]
theorem len_mul (a b : List Tm) : (mulT a b).length = a.length * b.length := by
  induction a with
  | nil => exact (Nat.zero_mul _).symm
  | cons t a ih => rw [mulT_cons, List.length_append, List.length_map, ih, List.length_cons, Nat.add_mul, Nat.one_mul, Nat.add_comm]
def sub3 (e f : Ex) : Ex := (e.1 - f.1, e.2.1 - f.2.1, e.2.2 - f.2.2)
theorem mul_e (t u : Tm) (e : Ex) : (t.mul u).e = e ↔ u.e = sub3 e t.e := by
  obtain ⟨e1, e2, e3⟩ := e
  show (t.i + u.i, t.j + u.j, t.k + u.k) = (e1, e2, e3) ↔ (u.i, u.j, u.k) = (e1 - t.i, e2 - t.j, e3 - t.k)
  simp only [Prod.mk.injEq]
  omega
theorem cf_mul1 (t : Tm) (b : List Tm) (e : Ex) : cf (b.map t.mul) e = t.c * cf b (sub3 e t.e) := by
  induction b with
  | nil => rw [List.map_nil, cf_nil, cf_nil, Int.mul_zero]
  | cons u b ih =>
    rw [List.map_cons, cf_cons, ih, cf_cons, Int.mul_add]
    congr 1
    by_cases q : u.e = sub3 e t.e
    · rw [if_pos ((mul_e t u e).mpr q), if_pos q]
      rfl
    · rw [if_neg (fun z => q ((mul_e t u e).mp z)), if_neg q, Int.mul_zero]
theorem mulT_nil (a : List Tm) : mulT a [] = [] := by
  induction a with
  | nil => rfl
  | cons t a ih => rw [mulT_cons, ih]; rfl
theorem mulT_cons_perm (a : List Tm) (u : Tm) (b : List Tm) : (mulT a (u :: b)).Perm (a.map (fun t => t.mul u) ++ mulT a b) := by
  induction a with
  | nil => exact .nil
  | cons t a ih =>
    rw [mulT_cons, mulT_cons, List.map_cons, List.map_cons, List.cons_append, List.cons_append]
    refine .cons _ ?_
    refine (ih.append_left _).trans ?_
    rw [← List.append_assoc, ← List.append_assoc]
    exact List.perm_append_comm.append_right _
theorem mulT_perm (a b : List Tm) : (mulT a b).Perm (mulT b a) := by
  induction a with
  | nil => rw [mulT_nil]; exact .nil
  | cons t a ih =>
    rw [mulT_cons]
    refine List.Perm.trans ?_ (mulT_cons_perm b t a).symm
    have : b.map t.mul = b.map fun u => u.mul t := List.map_congr_left fun u _ => Tm.mul_comm t u
    rw [this]
    exact ih.append_left _
theorem lexF_add (a b c d x y z w p q r s : Int) : SrtT.lexF [a + p, b + q, c + r, d + s] [x + p, y + q, z + r, w + s] = SrtT.lexF [a, b, c, d] [x, y, z, w] := by
  simp only [SrtT.lexF_cons]
  have h1 : (a + p = x + p) = (a = x) := by rw [eq_iff_iff]; omega
  have h2 : (b + q = y + q) = (b = y) := by rw [eq_iff_iff]; omega
  have h3 : (c + r = z + r) = (c = z) := by rw [eq_iff_iff]; omega
  have h4 : (d + s = w + s) = (d = w) := by rw [eq_iff_iff]; omega
  have g1 : (a + p < x + p) = (a < x) := by rw [eq_iff_iff]; omega
  have g2 : (b + q < y + q) = (b < y) := by rw [eq_iff_iff]; omega
  have g3 : (c + r < z + r) = (c < z) := by rw [eq_iff_iff]; omega
  have g4 : (d + s < w + s) = (d < w) := by rw [eq_iff_iff]; omega
  simp only [h1, h2, h3, h4, g1, g2, g3, g4]
theorem After.mul {t u s : Tm} (h : After t.e u.e) : After (s.mul t).e (s.mul u).e := by
  unfold After exr Tm.e Tm.mul at *
  dsimp only at *
  have e1 : s.i + u.i + (s.j + u.j) + (s.k + u.k) = u.i + u.j + u.k + (s.i + s.j + s.k) := by omega
  have e2 : s.i + t.i + (s.j + t.j) + (s.k + t.k) = t.i + t.j + t.k + (s.i + s.j + s.k) := by omega
  rw [e1, e2, Int.add_comm s.i u.i, Int.add_comm s.j u.j, Int.add_comm s.k u.k, Int.add_comm s.i t.i, Int.add_comm s.j t.j, Int.add_comm s.k t.k, lexF_add]
  exact h
/-- times one term: the order stays -/
theorem Nf.mul1 {ts : List Tm} (h : Nf ts) {s : Tm} (hs : s.c ≠ 0) : Nf (ts.map s.mul) := by
  refine ⟨fun t ht => ?_, ?_⟩
  · obtain ⟨u, hu, rfl⟩ := List.mem_map.mp ht
    exact Int.mul_ne_zero hs (h.nz u hu)
  · rw [List.pairwise_map]
    exact h.fall.imp fun z => z.mul
theorem Nf.scale {ts : List Tm} (h : Nf ts) {s : Int} (hs : s ≠ 0) : Nf (ts.map (Tm.scale s)) := by
  refine ⟨fun t ht => ?_, ?_⟩
  · obtain ⟨u, hu, rfl⟩ := List.mem_map.mp ht
    exact Int.mul_ne_zero hs (h.nz u hu)
  · rw [List.pairwise_map]
    exact h.fall
theorem adds_mul (tb : Tb) (a b : List Tm) : adds 1 tb (mulT a b) = a.foldl (fun tb t => adds 1 tb (b.map t.mul)) tb := by
  induction a generalizing tb with
  | nil => rfl
  | cons t a ih =>
    rw [mulT_cons, List.foldl_cons, ← ih]
    unfold adds
    rw [List.foldl_append]
end My
/-! nested data: lists of tuples of ints; loops and comprehensions over them; dicts by exponents; sorted, max, min -/
namespace My
open PySem PySem.Spec PyProof.Rows L2
section
variable {L : List Addr} {H H1 H2 H' : Hp} {K : PySem.W.Frag} {a b d p : Addr} {o u : HO} {xs ys : List V}
/-- a new thing may change as it will -/
theorem Ch.put (c : Ch L H H1) (hn : H a = none) : Ch L H (upd H1 a o) := fun b q e => by
  rw [upd_ne (ne_of_none e hn)]
  exact c b q e
theorem sqT_upd (h : SqT K H a xs) (hd : H d = some o) (hm : Mut (some o)) : SqT K (upd H d u) a xs := by
  rcases h with (h | ⟨q, h⟩) | h
  · exact .inl (.inl (by rw [upd_ne (fun z => by rw [z, hd] at h; cases h; exact hm)]; exact h))
  · exact .inl (.inr ⟨q, by rw [upd_ne (fun z => by rw [z, hd] at h; cases h; exact hm)]; exact h⟩)
  · exact .inr h
theorem SqT.updN (h : SqT K H a xs) (hd : H d = none) : SqT K (upd H d u) a xs := by
  rcases h with (h | ⟨q, h⟩) | h
  · exact .inl (.inl (by rw [upd_ne (ne_of_none h hd)]; exact h))
  · exact .inl (.inr ⟨q, by rw [upd_ne (ne_of_none h hd)]; exact h⟩)
  · exact .inr h
theorem SqT.updF {q : Obj} {kvs : List (List L2.Key × V)} (h : SqT K H a xs) (hd : H d = some (.frz q (.dT kvs))) : SqT K (upd H d u) a xs := by
  rcases h with (h | ⟨q, h⟩) | h
  · exact .inl (.inl (by rw [upd_ne (fun z => by rw [z, hd] at h; cases h)]; exact h))
  · exact .inl (.inr ⟨q, by rw [upd_ne (fun z => by rw [z, hd] at h; cases h)]; exact h⟩)
  · exact .inr h
end
/-! ### things in a row -/
/-- xs stand for ls, one by one -/
structure Els {α : Type} (E : α → V → Hp → Prop) (H : Hp) (xs : List V) (ls : List α) : Prop where
  len : xs.length = ls.length
  at_ : ∀ (i : Nat) (l : α), ls[i]? = some l → ∃ v, xs[i]? = some v ∧ E l v H
section
variable {α β : Type} {E : α → V → Hp → Prop} {F : β → V → Hp → Prop} {H H' : Hp} {xs ys : List V} {ls ms : List α} {x : V} {l : α}
theorem Els.nil : Els E H [] [] := ⟨rfl, fun i l h => by cases h⟩
theorem Els.snoc (h : Els E H xs ls) (hx : E l x H) : Els E H (xs ++ [x]) (ls ++ [l]) := by
  refine ⟨by rw [List.length_append, List.length_append, h.len]; rfl, fun i m e => ?_⟩
  rcases Nat.lt_or_ge i ls.length with q | q
  · rw [List.getElem?_append_left q] at e
    obtain ⟨v, e1, e2⟩ := h.at_ i m e
    exact ⟨v, by rw [List.getElem?_append_left (by rw [h.len]; exact q)]; exact e1, e2⟩
  · rw [List.getElem?_append_right q] at e
    rw [List.getElem?_append_right (by rw [h.len]; exact q), h.len]
    have : i - ls.length = 0 := by
      rcases Nat.eq_zero_or_pos (i - ls.length) with z | z
      · exact z
      · rw [List.getElem?_eq_none (by simp only [List.length_cons, List.length_nil]; omega)] at e
        cases e
    rw [this] at e ⊢
    cases e
    exact ⟨x, rfl, hx⟩
theorem Els.cons (h : Els E H xs ls) (hx : E l x H) : Els E H (x :: xs) (l :: ls) := by
  refine ⟨by rw [List.length_cons, List.length_cons, h.len], fun i m e => ?_⟩
  cases i with
  | zero => cases e; exact ⟨x, rfl, hx⟩
  | succ i => exact h.at_ i m e
theorem Els.app (h : Els E H xs ls) (h' : Els E H ys ms) : Els E H (xs ++ ys) (ls ++ ms) := by
  refine ⟨by rw [List.length_append, List.length_append, h.len, h'.len], fun i m e => ?_⟩
  rcases Nat.lt_or_ge i ls.length with q | q
  · rw [List.getElem?_append_left q] at e
    obtain ⟨v, e1, e2⟩ := h.at_ i m e
    exact ⟨v, by rw [List.getElem?_append_left (by rw [h.len]; exact q)]; exact e1, e2⟩
  · rw [List.getElem?_append_right q] at e
    rw [List.getElem?_append_right (by rw [h.len]; exact q), h.len]
    exact h'.at_ _ m e
theorem Els.imp (h : Els E H xs ls) (i : ∀ l v, l ∈ ls → E l v H → E l v H') : Els E H' xs ls :=
  ⟨h.len, fun k l e => let ⟨v, e1, e2⟩ := h.at_ k l e; ⟨v, e1, i l v (List.mem_of_getElem? e) e2⟩⟩
theorem Els.map {f : α → β} (h : Els E H xs ls) (i : ∀ l v, l ∈ ls → E l v H → F (f l) v H) : Els F H xs (ls.map f) := by
  refine ⟨by rw [List.length_map, h.len], fun k m e => ?_⟩
  rw [List.getElem?_map] at e
  obtain ⟨l, e1, rfl⟩ := Option.map_eq_some_iff.mp e
  obtain ⟨v, e2, e3⟩ := h.at_ k l e1
  exact ⟨v, e2, i l v (List.mem_of_getElem? e1) e3⟩
theorem Els.get (h : Els E H xs ls) {i : Nat} {v : V} (e : xs[i]? = some v) : ∃ l, ls[i]? = some l ∧ E l v H := by
  have hi : i < ls.length := by rw [← h.len]; exact (List.getElem?_eq_some_iff.mp e).1
  obtain ⟨w, e1, e2⟩ := h.at_ i _ (List.getElem?_eq_getElem hi)
  rw [e] at e1
  cases e1
  exact ⟨_, List.getElem?_eq_getElem hi, e2⟩
theorem Els.take (h : Els E H xs ls) (n : Nat) : Els E H (xs.take n) (ls.take n) := by
  refine ⟨by rw [List.length_take, List.length_take, h.len], fun i l e => ?_⟩
  rw [List.getElem?_take] at e ⊢
  split at e
  · rename_i q
    rw [if_pos q]
    exact h.at_ i l e
  · cases e
theorem Els.drop (h : Els E H xs ls) (n : Nat) : Els E H (xs.drop n) (ls.drop n) := by
  refine ⟨by rw [List.length_drop, List.length_drop, h.len], fun i l e => ?_⟩
  rw [List.getElem?_drop] at e ⊢
  exact h.at_ _ l e
theorem Els.rev (h : Els E H xs ls) : Els E H xs.reverse ls.reverse := by
  refine ⟨by rw [List.length_reverse, List.length_reverse, h.len], fun i l e => ?_⟩
  have hi : i < ls.length := by
    have := (List.getElem?_eq_some_iff.mp e).1
    rw [List.length_reverse] at this
    exact this
  rw [List.getElem?_reverse hi] at e
  rw [List.getElem?_reverse (by rw [h.len]; exact hi), h.len]
  exact h.at_ _ l e
end
/-- a tuple of ints -/
def Tu (K : PySem.W.Frag) (l : List Int) (v : V) (H : Hp) : Prop := ∃ a, v = .ref a ∧ SqT K H a (ivs l)
abbrev Tus (K : PySem.W.Frag) (H : Hp) (xs : List V) (ls : List (List Int)) : Prop := Els (Tu K) H xs ls
theorem Tu.ch {K : PySem.W.Frag} {L : List Addr} {H H' : Hp} {l : List Int} {v : V} (h : Tu K l v H) (c : Ch L H H') : Tu K l v H' := let ⟨a, e, q⟩ := h; ⟨a, e, c.sqT q⟩
theorem Els.ch {K : PySem.W.Frag} {L : List Addr} {H H' : Hp} {ls : List (List Int)} {xs : List V} (h : Tus K H xs ls) (c : Ch L H H') : Tus K H' xs ls := h.imp fun _ _ _ q => q.ch c
/-- a term, a tuple of four ints -/
def Tme (K : PySem.W.Frag) (t : Tm) (v : V) (H : Hp) : Prop := ∃ a, v = .ref a ∧ SqT K H a [.int t.c, .int t.i, .int t.j, .int t.k]
abbrev Tms (K : PySem.W.Frag) (H : Hp) (xs : List V) (ts : List Tm) : Prop := Els (Tme K) H xs ts
section
variable {K : PySem.W.Frag} {L : List Addr} {H H' : Hp} {t : Tm} {v : V} {xs : List V} {ts : List Tm} {a b d : Addr} {o u : HO}
theorem Tme.ch (h : Tme K t v H) (c : Ch L H H') : Tme K t v H' := let ⟨a, e, q⟩ := h; ⟨a, e, c.sqT q⟩
theorem tme_upd (h : Tme K t v H) (hd : H d = some o) (hm : Mut (some o)) : Tme K t v (upd H d u) := let ⟨a, e, q⟩ := h; ⟨a, e, sqT_upd q hd hm⟩
theorem Els.chm (h : Tms K H xs ts) (c : Ch L H H') : Tms K H' xs ts := h.imp fun _ _ _ q => q.ch c
theorem Els.updm (h : Tms K H xs ts) (hd : H d = some o) (hm : Mut (some o)) : Tms K (upd H d u) xs ts := h.imp fun _ _ _ q => tme_upd q hd hm
/-- a tuple, a list of terms -/
def TmT (K : PySem.W.Frag) (H : Hp) (a : Addr) (ts : List Tm) : Prop := ∃ xs, SqT K H a xs ∧ Tms K H xs ts
def TmL (K : PySem.W.Frag) (H : Hp) (a : Addr) (ts : List Tm) : Prop := ∃ xs, H a = some (.lst xs) ∧ Tms K H xs ts
theorem TmT.ch (h : TmT K H a ts) (c : Ch L H H') : TmT K H' a ts := let ⟨xs, e, q⟩ := h; ⟨xs, c.sqT e, q.chm c⟩
theorem TmL.ch0 (h : TmL K H a ts) (c : Ch [] H H') : TmL K H' a ts := let ⟨xs, e, q⟩ := h; ⟨xs, c.at0 e, q.chm c⟩
theorem TmL.ch1 (h : TmL K H a ts) (ne : a ≠ b) (c : Ch [b] H H') : TmL K H' a ts := let ⟨xs, e, q⟩ := h; ⟨xs, c.at1 ne e, q.chm c⟩
/-- a tuple or a list of terms -/
def TmS (K : PySem.W.Frag) (H : Hp) (a : Addr) (ts : List Tm) : Prop := TmT K H a ts ∨ TmL K H a ts
theorem TmS.ch0 (h : TmS K H a ts) (c : Ch [] H H') : TmS K H' a ts := h.imp (fun z => z.ch c) fun z => z.ch0 c
end
/-! ### loops -/
section
variable {σ : L2.St} {H : Hp} {Q : VK} {K : PySem.W.Frag} {a p : Addr} {xs : List V} {v : V} {i j lo : Int} {n : Nat} {N B C : L2.St → Hp → Prop} {R : VK} {g : TG} {tb : TS} {wi : TI} {tt : TT} {te : TE} {vs : List Nat} {J : It}
/-- for x in a tuple or a list of things -/
theorem for_e {α : Type} {E : α → V → Hp → Prop} {ls : List α} (w : Walk J n (fun H => SqT K H a xs) (YAt xs)) (hn : n = xs.length) (Pv : Nat → L2.St → Hp → Prop) (h0 : Pv 0 σ H) (hl : ∀ i σ H, i ≤ ls.length → Pv i σ H → SqT K H a xs ∧ Els E H xs ls)
    (hs : ∀ i l x σ H, ls[i]? = some l → Pv i σ H → E l x H → g x σ H fun σ2 H2 => tb ⟨Pv (i + 1), R, N, Pv (i + 1)⟩ σ2 H2) (hd : ∀ σ H, Pv ls.length σ H → N σ H) (hx : xs.length = ls.length) : ForG J g tb N R σ H := by
  subst hn
  refine for_w w Pv h0 (fun i σ H hi hp => (hl i σ H (by omega) hp).1) (fun i x σ H H' hi hp y => ?_) (fun σ H hp => hd σ H (by rw [← hx]; exact hp))
  obtain ⟨rfl, hx'⟩ := y
  obtain ⟨_, e⟩ := hl i σ _ (by omega) hp
  obtain ⟨l, e1, e2⟩ := e.get hx'
  exact hs i l x σ _ e1 hp e2
theorem for_eT {α : Type} {E : α → V → Hp → Prop} {ls : List α} (Pv : Nat → L2.St → Hp → Prop) (hx : xs.length = ls.length) (h0 : Pv 0 σ H) (hl : ∀ i σ H, i ≤ ls.length → Pv i σ H → SqT K H a xs ∧ Els E H xs ls)
    (hs : ∀ i l x σ H, ls[i]? = some l → Pv i σ H → E l x H → g x σ H fun σ2 H2 => tb ⟨Pv (i + 1), R, N, Pv (i + 1)⟩ σ2 H2) (hd : ∀ σ H, Pv ls.length σ H → N σ H) : ForG (Itt K a) g tb N R σ H :=
  for_e walk_tup rfl Pv h0 hl hs hd hx
theorem for_eL {α : Type} {E : α → V → Hp → Prop} {ls : List α} (Pv : Nat → L2.St → Hp → Prop) (hx : xs.length = ls.length) (h0 : Pv 0 σ H) (hl : ∀ i σ H, i ≤ ls.length → Pv i σ H → SqL K H a xs ∧ Els E H xs ls)
    (hs : ∀ i l x σ H, ls[i]? = some l → Pv i σ H → E l x H → g x σ H fun σ2 H2 => tb ⟨Pv (i + 1), R, N, Pv (i + 1)⟩ σ2 H2) (hd : ∀ σ H, Pv ls.length σ H → N σ H) : ForG (Itl K a) g tb N R σ H := by
  refine for_w (walk_list (K := K) (a := a) (xs := xs)) Pv h0 (fun i σ H hi hp => (hl i σ H (by omega) hp).1) (fun i x σ H H' hi hp y => ?_) (fun σ H hp => hd σ H (by rw [← hx]; exact hp))
  obtain ⟨rfl, hx'⟩ := y
  obtain ⟨_, e⟩ := hl i σ _ (by omega) hp
  obtain ⟨l, e1, e2⟩ := e.get hx'
  exact hs i l x σ _ e1 hp e2
/-! ### comprehensions -/
/-- [e for x in .. if ..] -/
theorem lc_d {α : Type} {G : Hp → Prop} {Y : Nat → Hp → V → Hp → Prop} (ls : List α) (w : Walk J n G Y) (hln : ls.length = n) (b : α → Bool) (El : Addr → α → V → Hp → Prop) (hEl : ∀ D l v H1 H2, Ch [D] H1 H2 → El D l v H1 → El D l v H2) (hG : ∀ H', Ch [] H H' → G H') (hn : n < 1000000)
    (hs : ∀ D out k l x H1 H2, H D = none → H1 D = some (.lst out) → ls[k]? = some l → Ch [] H H1 → Y k H1 x H2 → ∀ (Nx : Hp → Prop) (A : V → Hp → Prop), (∀ H', Ch [] H1 H' → b l = false → Nx H') → (∀ y H', Ch [] H1 H' → b l = true → El D l y H' → A y H') →
      g x (wipe σ vs) H2 fun σ2 H3 => wipe σ2 vs = wipe σ vs ∧ tt σ2 H3 fun c H4 => if c = true then te σ2 H4 A else Nx H4)
    (hd : ∀ D H' out, H D = none → Ch [] H H' → H' D = some (.lst out) → Els (El D) H' out (ls.filter b) → Q (.ref D) H') : LcG J g tt te vs σ H Q := by
  intro D hD
  refine ⟨fun k m H' => m = n - k ∧ k ≤ n ∧ Ch [] H H' ∧ ∃ out, H' D = some (.lst out) ∧ Els (El D) H' out ((ls.take k).filter b), ⟨_, rfl, Nat.zero_le _, Ch.new hD, [], upd_same, Els.nil⟩, ?_⟩
  rintro k m H1 ⟨rfl, hk, c1, out, eD, el⟩
  by_cases hlt : k < n
  · refine .inr ⟨w.goes k H1 hlt (hG _ c1), fun H' => Ch [] H H' ∧ ∃ out, H' D = some (.lst out) ∧ Els (El D) H' out ((ls.take (k + 1)).filter b), fun H' q => ⟨_, by omega, rfl, hlt, q⟩, fun x H2 y => ?_⟩
    have ek : ls[k]? = some (ls[k]'(by omega)) := List.getElem?_eq_getElem (by omega)
    have tk : ls.take (k + 1) = ls.take k ++ [ls[k]'(by omega)] := by rw [List.take_succ, ek]; rfl
    have ol : out.length < sizeLine := by
      have h1 : out.length ≤ k := by
        rw [el.len]
        refine Nat.le_trans (List.length_filter_le _ _) ?_
        rw [List.length_take]
        omega
      have h2 : (1000000 : Nat) < sizeLine := by decide
      omega
    have mono : ∀ {H1 H2 : Hp}, Ch [] H1 H2 → Ch [D] H1 H2 := fun c => c.mono fun _ m => nomatch m
    refine hs D out k _ x H1 H2 hD eD ek c1 (w.yields k H1 x H2 hlt (hG _ c1) y) _ _ (fun H' c hb => ⟨c1.trans c, out, c.at0 eD, ?_⟩) (fun z H' c hb hz => ⟨out, c.at0 eD, ol, Ch.put (c1.trans c) hD, out ++ [z], upd_same, ?_⟩)
    · rw [tk, List.filter_append, List.filter_cons_of_neg (by rw [hb]; exact Bool.false_ne_true), List.filter_nil, List.append_nil]
      exact el.imp fun l v _ => hEl D l v _ _ (mono c)
    · rw [tk, List.filter_append, List.filter_cons_of_pos hb, List.filter_nil]
      have cs : Ch [D] H' (upd H' D (.lst (out ++ [z]))) := Ch.set (c.at0 eD)
      exact (el.imp fun l v _ q => hEl D l v _ _ cs (hEl D l v _ _ (mono c) q)).snoc (hEl D _ _ _ _ cs hz)
  · have e : k = n := by omega
    subst e
    refine .inl ⟨w.stops H1 (hG _ c1), hd D H1 out hD c1 eD ?_⟩
    rw [← hln, List.take_length] at el
    exact el
theorem lc_e {α : Type} {G : Hp → Prop} {Y : Nat → Hp → V → Hp → Prop} (ls : List α) (w : Walk J n G Y) (hln : ls.length = n) (b : α → Bool) (El : α → V → Hp → Prop) (hEl : ∀ l v L H1 H2, Ch L H1 H2 → El l v H1 → El l v H2) (hG : ∀ H', Ch [] H H' → G H') (hn : n < 1000000)
    (hs : ∀ k l x H1 H2, ls[k]? = some l → Ch [] H H1 → Y k H1 x H2 → ∀ (Nx : Hp → Prop) (A : V → Hp → Prop), (∀ H', Ch [] H1 H' → b l = false → Nx H') → (∀ y H', Ch [] H1 H' → b l = true → El l y H' → A y H') →
      g x (wipe σ vs) H2 fun σ2 H3 => wipe σ2 vs = wipe σ vs ∧ tt σ2 H3 fun c H4 => if c = true then te σ2 H4 A else Nx H4)
    (hd : ∀ D H' out, H D = none → Ch [] H H' → H' D = some (.lst out) → Els El H' out (ls.filter b) → Q (.ref D) H') : LcG J g tt te vs σ H Q :=
  lc_d ls w hln b (fun _ => El) (fun D l v H1 H2 => hEl l v [D] H1 H2) hG hn (fun _ _ k l x H1 H2 _ _ e c y => hs k l x H1 H2 e c y) hd
end
theorem filter_yes {α : Type} (ls : List α) : ls.filter (fun _ => true) = ls := List.filter_eq_self.mpr fun _ _ => rfl
/-! ### tables -/
/-- a table as a dict -/
def dvT (tb : Tb) : List (List L2.Key × V) := tb.map fun p => ((exl p.1).map Sum.inl, .int p.2)
theorem key_inj {e f : Ex} (h : (exl e).map (Sum.inl : Int → L2.Key) = (exl f).map Sum.inl) : e = f := exl_inj (by
  unfold exl at h ⊢
  injection h with h1 h
  injection h with h2 h
  injection h with h3 h
  rw [Sum.inl.inj h1, Sum.inl.inj h2, Sum.inl.inj h3])
theorem dvT_get (tb : Tb) (e : Ex) : valV (dvT tb) ((exl e).map Sum.inl) = (getT tb e).map V.int := by
  induction tb with
  | nil => rfl
  | cons p tb ih =>
    rw [getT_cons, show dvT (p :: tb) = ((exl p.1).map Sum.inl, V.int p.2) :: dvT tb from rfl]
    by_cases q : p.1 = e
    · rw [if_pos q, valV_pos (by rw [q])]
      rfl
    · rw [if_neg q, valV_neg (fun z => q (key_inj z)), ih]
theorem dvT_any (tb : Tb) (e : Ex) : ((dvT tb).any fun kv => decide (kv.1 = (exl e).map Sum.inl)) = (getT tb e).isSome := by
  rw [valV_any, dvT_get, Option.isSome_map]
theorem put_none {tb : Tb} {e : Ex} {c : Int} (h : getT tb e = none) : putT tb e c = tb ++ [(e, c)] := by
  induction tb with
  | nil => rfl
  | cons p tb ih =>
    rw [getT_cons] at h
    by_cases q : p.1 = e
    · rw [if_pos q] at h; cases h
    · rw [if_neg q] at h
      rw [show putT (p :: tb) e c = if p.1 = e then (p.1, c) :: tb else p :: putT tb e c from rfl, if_neg q, ih h]
      rfl
theorem dvT_put {tb : Tb} (ok : TbOk tb) (e : Ex) (c : Int) : putK (dvT tb) ((exl e).map Sum.inl) (.int c) = dvT (putT tb e c) := by
  unfold putK
  rw [dvT_any]
  cases h : getT tb e with
  | none =>
    rw [put_none h]
    simp [dvT]
  | some z =>
    rw [if_pos (show (some z).isSome = true from rfl)]
    induction tb with
    | nil => cases h
    | cons p tb ih =>
      have ok' := List.pairwise_cons.mp ok
      rw [show putT (p :: tb) e c = if p.1 = e then (p.1, c) :: tb else p :: putT tb e c from rfl, show dvT (p :: tb) = ((exl p.1).map Sum.inl, V.int p.2) :: dvT tb from rfl, List.map_cons]
      by_cases q : p.1 = e
      · rw [if_pos q, if_pos (by rw [q])]
        have : (dvT tb).map (fun kv => if kv.1 = (exl e).map Sum.inl then (kv.1, V.int c) else kv) = dvT tb := by
          unfold dvT
          rw [List.map_map]
          refine List.map_congr_left fun r hr => ?_
          show (if (exl r.1).map Sum.inl = (exl e).map Sum.inl then _ else _) = _
          rw [if_neg fun z => ok'.1 r hr (q.trans (key_inj z).symm)]
        rw [this]
        rfl
      · rw [getT_cons, if_neg q] at h
        rw [if_neg q, if_neg (fun z => q (key_inj z)), ih ok'.2 h]
        rfl
theorem dvT_len (tb : Tb) : (dvT tb).length = tb.length := List.length_map ..
section
variable {σ : L2.St} {H : Hp} {Q : VK} {K : PySem.W.Frag} {a b d p : Addr} {x y v z : V} {tb : Tb} {e : Ex} {td ty tx te : TE}
def RGet (x y : V) (H : Hp) (Q : VK) : Prop := ∃ a v, x = .ref a ∧ DGet H a y (some v) ∧ Q v H
theorem w_dget (h : td σ H fun x H1 => ty σ H1 fun y H2 => RGet x y H2 Q) : tDGet td ty σ H Q := h
theorem rget {c : Int} (h : Rd H d (.dT (dvT tb))) (hb : H b = some (.tup (ivs (exl e)))) (g : getT tb e = some c) (q : Q (.int c) H) : RGet (.ref d) (.ref b) H Q :=
  ⟨d, _, rfl, .inr ⟨dvT tb, (exl e).map Sum.inl, b, h, rfl, hb, by rw [dvT_get, g]; rfl⟩, q⟩
def RGet2 (a : Addr) (y z : V) (H : Hp) (Q : VK) : Prop := ∃ o, DGet H a y o ∧ Q (o.getD z) H
def RIsD (x : V) (H : Hp) (R : Addr → Prop) : Prop := ∃ a, x = .ref a ∧ IsD H a ∧ R a
theorem w_dget2 (h : td σ H fun x H1 => RIsD x H1 fun a => ty σ H1 fun y H2 => tx σ H2 fun z H3 => RGet2 a y z H3 Q) : tDGet2 td ty tx σ H Q := h
theorem risd {R : Addr → Prop} {kvs : List (List L2.Key × V)} (h : Rd H d (.dT kvs)) (q : R d) : RIsD (.ref d) H R := ⟨d, rfl, .inr ⟨kvs, h⟩, q⟩
theorem rget2 (h : Rd H d (.dT (dvT tb))) (hb : H b = some (.tup (ivs (exl e)))) (q : Q (.int (get0 tb e)) H) : RGet2 d (.ref b) (.int 0) H Q :=
  ⟨_, .inr ⟨dvT tb, (exl e).map Sum.inl, b, h, rfl, hb, rfl⟩, by
    rw [dvT_get]
    unfold get0 at q
    cases g : getT tb e with
    | none => rw [g] at q; exact q
    | some c => rw [g] at q; exact q⟩
theorem w_dnewT (h : ∀ p H', H p = none → Ch [] H H' → H' p = some (.dT (dvT [])) → Q (.ref p) H') : tDNewT σ H Q := fun p hp => h p _ hp (Ch.new hp) upd_same
def RPut (x y v : V) (H : Hp) (R : Hp → Prop) : Prop := ∃ a H4, x = .ref a ∧ DPut H a y v H4 ∧ R H4
variable {N B C : L2.St → Hp → Prop} {R : VK} {tv : TE}
theorem w_dput (h : tv σ H fun v H1 => td σ H1 fun x H2 => ty σ H2 fun y H3 => RPut x y v H3 fun H4 => N σ H4) : sDPut td ty tv ⟨N, R, B, C⟩ σ H := h
theorem rput {R : Hp → Prop} {c : Int} (ok : TbOk tb) (h : H d = some (.dT (dvT tb))) (hb : H b = some (.tup (ivs (exl e)))) (hl : tb.length < 1000000) (q : R (upd H d (.dT (dvT (putT tb e c))))) : RPut (.ref d) (.ref b) (.int c) H R :=
  ⟨d, _, rfl, DPut.t (k := (exl e).map Sum.inl) h hb (by rw [dvT_len]; exact Nat.lt_trans hl (by decide)), by rw [dvT_put ok]; exact q⟩
/-- while it is walked the dict is locked -/
theorem w_lockT {kvs : List (List L2.Key × V)} (h : H d = some (.dT kvs)) (q : ∀ od H1, H1 = upd H d (.frz od (.dT kvs)) → te σ H1 fun v H2 => H2 d = some (.frz od (.dT kvs)) ∧ Q v (upd H2 d (.dT kvs))) : tLockE te σ H Q :=
  ⟨d, .dT kvs, h, trivial, fun od => q od _ rfl⟩
theorem w_lockS {kvs : List (List L2.Key × V)} {t : TS} (h : H d = some (.dT kvs)) (q : ∀ od H1, H1 = upd H d (.frz od (.dT kvs)) → t ⟨fun σ' H' => H' d = some (.frz od (.dT kvs)) ∧ N σ' (upd H' d (.dT kvs)), fun v H' => H' d = some (.frz od (.dT kvs)) ∧ R v (upd H' d (.dT kvs)),
      fun σ' H' => H' d = some (.frz od (.dT kvs)) ∧ B σ' (upd H' d (.dT kvs)), fun σ' H' => H' d = some (.frz od (.dT kvs)) ∧ C σ' (upd H' d (.dT kvs))⟩ σ H1) : tLock t ⟨N, R, B, C⟩ σ H :=
  ⟨d, .dT kvs, h, trivial, fun od => q od _ rfl⟩
theorem Ch.unlock {L : List Addr} {H H2 : Hp} {u : HO} {od : Obj} (h : H d = some u) (c : Ch L (upd H d (.frz od u)) H2) : Ch L H (upd H2 d u) := fun b o e => by
  by_cases q : b = d
  · subst q
    rw [h] at e
    cases e
    exact .inl upd_same
  · rw [upd_ne q]
    exact c b o (by rw [upd_ne q]; exact e)
theorem w_iK {S : It → Hp → Prop} (h : td σ H fun x H1 => ∃ d o, x = .ref d ∧ ((∃ kvs, H1 d = some (.frz o (.dK kvs)) ∧ S (Itk d o kvs) H1) ∨ ∃ kvs, H1 d = some (.frz o (.dT kvs)) ∧ S (Itkt d o kvs) H1)) : iKeys td σ H S := h
theorem w_iKr {S1 : Addr → Obj → List (L2.Key × V) → Prop} {S2 : Addr → Obj → List (List L2.Key × V) → Prop} {o : Obj} {kvs : List (List L2.Key × V)} (h : H d = some (.frz o (.dT kvs))) (q : S2 d o kvs) :
    ∃ d' o', V.ref d = .ref d' ∧ ((∃ kvs, H d' = some (.frz o' (.dK kvs)) ∧ S1 d' o' kvs) ∨ ∃ kvs, H d' = some (.frz o' (.dT kvs)) ∧ S2 d' o' kvs) := ⟨d, o, rfl, .inr ⟨kvs, h, q⟩⟩
end
/-! ### sorted, max, min -/
section
variable {X : Cx} {K : PySem.W.Frag}
theorem k_sort (h : X.K = K) : CallRK X (.builtin "sorted") [Str.ofString "reverse"] (rSortTR K) := h ▸ cr_sortTR
theorem k_max (h : X.K = K) (hc : X.calm = true) : CallR X (.builtin "max") (rMax K) := h ▸ cr_max hc
theorem cb_min3 (hc : X.calm = true) : CallR X (.builtin "min") (rNuC3 nuMin3) := call_min3Nu hc
variable {H : Hp} {Q : VK} {a : Addr} {i j k : Int} {ns : List Int}
theorem w_maxL (h : SqL K H a (ivs ns)) (n0 : 0 < ns.length) (q : ∀ m, m ∈ ns → (∀ y, y ∈ ns → y ≤ m) → Q (.int m) H) : rMax K [.ref a] H Q := ⟨a, ns, rfl, h, n0, q⟩
end
end My
/-! an own class: instances made where __init__ may raise; methods, static methods that may raise; isinstance, str -/
namespace My
open PySem PySem.Spec PyProof.Rows L2
section
variable {X : Cx} {CX : CXT} {k j : Nat} {f C : Addr} {fd : FuncData} {ps : List Str} {sp : Sp} {dvs : List V} {ds : List Value} {x m : Str} {p pos apos : Pos} {e o : Expr} {es : List Expr} {ta : TE} {t : TA}
theorem run_makeS {E : XK} {pins : List (Addr × Obj)} {σ : L2.St} {H : Hp} {s : Shared} {Q : VK} {us : List Value} {vs : List V} (M : Mk X.K C f) (F : FnOk X.prog X.w X.K X.mg X.base CX k f fd ps sp) (hr : Room (k + 1) X.A) (hb : Binds X.K fd ps ds) (hd : Vals dvs ds)
    (hx : PassesAt CX X σ E) (I : Inv X pins σ H s) (r : Vals vs us)
    (h : ∀ x dx, H x = none → H dx = none → dx ≠ x → sp (.ref x :: (vs ++ dvs)) (upd (upd H dx (.own x)) x (.ins C dx [])) (fun v H2 => v = .non ∧ Q (.ref x) H2) E) :
    wpAny (model X.prog X.w) X.A (call (.ref C) us) (EP X pins σ Q) X.xe s := by
  have hq := h (s.heap.objs.size + 1) s.heap.objs.size (I.hok.fresh (Nat.le_succ _)) (I.hok.fresh (Nat.le_refl _)) (Nat.ne_of_lt (Nat.lt_succ_self _))
  have I2 := Inv.made (C := C) I
  have r2 : Vals (V.ref (s.heap.objs.size + 1) :: (vs ++ dvs)) (Value.ref (s.heap.objs.size + 1) :: (us ++ ds)) := .cons rfl (r.append hd)
  have hl : (Value.ref (s.heap.objs.size + 1) :: us ++ ds).length = ps.length := by
    have e := r2.length
    rw [F.len _ _ _ _ hq] at e
    exact e.symm
  refine wpAny_call (make_map (f := f) I.kIn M.makes M.init (beq_iff_eq.mp M.fn) (codeAny_mono (F.run _ X.stack _ _ ⟨Value.ref (s.heap.objs.size + 1) :: us, []⟩ (Value.ref (s.heap.objs.size + 1) :: (us ++ ds)) _ _ E (hr.make C us [])
    (I2.env0.make C us []) (hb _ (Value.ref (s.heap.objs.size + 1) :: us) I2.kIn hl) r2 hq) fun r s' hq' => ?_))
  cases r with
  | error e => exact hx pins _ _ e s' I2 hq'
  | ok fl =>
    cases fl with
    | ret u =>
      obtain ⟨v, H', I3, rv, ev, q3⟩ := I2.after hq'
      subst ev
      exact ⟨rv, ⟨V.ref (s.heap.objs.size + 1), H', I3, rfl, q3⟩⟩
    | next => exact False.elim hq'
    | brk => exact False.elim hq'
    | cont => exact False.elim hq'
/-- a class that can be made; __init__ may raise -/
structure CalI (P : Program) (w : World) (K : PySem.W.Frag) (mg : Str → Option Value) (base : Heap) (k : Nat) (x : Str) (C : Addr) (dvs : List V) (sp : Sp) : Prop where
  ex : ∃ (f : Addr) (fd : FuncData) (ps : List Str) (ds : List Value), Mk K C f ∧ FnOk P w K mg base (L2N.CX P w) k f fd ps sp ∧ mg x = some (.ref C) ∧ Binds K fd ps [] ∧ Binds K fd ps ds ∧ Vals dvs ds
def tMakeS (C : Addr) (sp : Sp) (dvs : List V) (E : L2.St → XK) (t : TA) : TE := fun σ H Q => t σ H fun vs H1 => ∀ x dx, H1 x = none → H1 dx = none → dx ≠ x →
  sp (.ref x :: (vs ++ dvs)) (upd (upd H1 dx (.own x)) x (.ins C dx [])) (fun v H2 => v = .non ∧ Q (.ref x) H2) (E σ)
/-- C(e) -/
theorem pe_mkS {E : L2.St → XK} (c : CalI X.prog X.w X.K X.mg X.base k x C dvs sp) (hr : Room j X.A) (hk : k + 1 ≤ j) (hg : Gl X x) (hx : ∀ σ, PassesAt (L2N.CX X.prog X.w) X σ (E σ)) (ha : PA X (e :: es) t)
    (hdb : (x == ("__debug__" : Str)) = false := by decide) (he : starEach (e :: es) X.env = (false, eval e X.env) :: starEach es X.env := by rfl) (hpl : (backTo pos (starEach es X.env)).any (·.1) = false := by rfl) :
    PE X (.Call (.Name x p) (e :: es) [] pos) (tMakeS C sp [] E t) := by
  obtain ⟨f, fd, ps, ds, M, F, hm, b, _⟩ := c.ex
  refine ⟨fun pins s σ H Q I h => ?_⟩
  refine wpAny_Call_Name_kw (ld_glob I hg hm ?_ hdb)
  refine PySem.W.callWith_K (h₀ := X.base) I.ok.mod.kin M.kp (thn (ha.run pos pins s σ H _ I h) fun us s1 ⟨vs, H1, I1, r, q⟩ => ⟨I1.kIn, ?_⟩) he hpl
  exact run_makeS M F (hr.mono hk) b .nil (hx σ) I1 r q
/-- C() -/
theorem pe_mkD {E : L2.St → XK} (c : CalI X.prog X.w X.K X.mg X.base k x C dvs sp) (hr : Room j X.A) (hk : k + 1 ≤ j) (hg : Gl X x) (hx : ∀ σ, PassesAt (L2N.CX X.prog X.w) X σ (E σ)) (hdb : (x == ("__debug__" : Str)) = false := by decide) :
    PE X (.Call (.Name x p) [] [] pos) (tMakeS C sp dvs E tNil) := by
  obtain ⟨f, fd, ps, ds, M, F, hm, _, b, v⟩ := c.ex
  refine ⟨fun pins s σ H Q I h => ?_⟩
  refine wpAny_Call_Name_kw (ld_glob I hg hm ?_ hdb)
  exact PySem.W.callWith_K0 I.kIn M.kp (run_makeS (us := []) M F (hr.mono hk) b v (hx σ) I .nil h)
/-- nothing is let out -/
theorem noLet (σ : L2.St) : PassesAt (L2N.CX X.prog X.w) X σ E0 := fun _ _ _ _ _ _ h => by
  obtain ⟨_, _, _, _, _, _, _, _, _, _, _, _, z⟩ := h
  exact z.elim
theorem letW {W : WX} (tk : L2N.Takes X W) (σ : L2.St) : PassesAt (L2N.CX X.prog X.w) X σ (WE W σ) := L2N.passAt tk σ
/-! ### methods that may raise -/
structure CalMN (P : Program) (w : World) (K : PySem.W.Frag) (mg : Str → Option Value) (base : Heap) (k : Nat) (C : Addr) (m : Str) (sp : Sp) : Prop where
  ex : ∃ (f : Addr) (fd : FuncData) (ps : List Str), FnOk P w K mg base (L2N.CX P w) k f fd ps sp ∧ Meth K C m f ∧ Binds K fd ps []
end
section
variable {P : Program} {w : World} {K : PySem.W.Frag} {mg : Str → Option Value} {base : Heap} {C : Addr}
theorem calM_ofN {m q : Str} {st : Stmt} {f : Addr} {fd : FuncData} {N ps : List Str} {k : Nat} {sp : Sp} (F : DefM K C m q st ps f fd) (S : FnScope N ps (defScope st)) (len : ∀ vs H Q E, sp vs H Q E → vs.length = ps.length)
    (hbody : ∀ (cdv : Value) (A : Around) (outer : List Env) (s : Shared) (H : Hp) (vs : List V) (Q : VK) (E : XK), Room k (A.deeper (envOfC q (defScope st) s.heap.objs.size f cdv)) → sp vs H Q E →
      ∃ t, PSs (cxOf (L2N.CX P w) P w K mg base N q (defScope st) f cdv A outer s H E) (defBody st) t ∧ t { nx := fun _ H' => Q .non H', rt := Q } (start N vs) H) : CalMN P w K mg base (k + 1) C m sp :=
  ⟨f, fd, ps, fun_okQ F.fn S len hbody, F.me, F.bi⟩
where fun_okQ {x qual : Str} {st : Stmt} {f : Addr} {fd : FuncData} {N ps : List Str} {k : Nat} {sp : Sp} (F : Fun K x qual st f fd) (S : FnScope N ps (defScope st)) (len : ∀ vs H Q E, sp vs H Q E → vs.length = ps.length)
    (hbody : ∀ (cdv : Value) (A : Around) (outer : List Env) (s : Shared) (H : Hp) (vs : List V) (Q : VK) (E : XK), Room k (A.deeper (envOfC qual (defScope st) s.heap.objs.size f cdv)) → sp vs H Q E →
      ∃ t, PSs (cxOf (L2N.CX P w) P w K mg base N qual (defScope st) f cdv A outer s H E) (defBody st) t ∧ t { nx := fun _ H' => Q .non H', rt := Q } (start N vs) H) : FnOk P w K mg base (L2N.CX P w) (k + 1) f fd ps sp := fun_okN F S len hbody
/-- __init__ of a class, its last parameter with a default -/
structure DefI (K : PySem.W.Frag) (mg : Str → Option Value) (x : Str) (C : Addr) (q : Str) (st : Stmt) (ps : List Str) (dvs : List V) (f : Addr) (fd : FuncData) : Prop where
  fn : FunD K "__init__" q (defArgs st) (defBody st) (defScope st) dvs [] f fd
  mkr : Mk K C f
  gl : mg x = some (.ref C)
  bi : Binds K fd ps []
  bd : ∃ ds, Vals dvs ds ∧ Binds K fd ps ds
theorem calI_of {x q : Str} {st : Stmt} {f : Addr} {fd : FuncData} {N ps : List Str} {dvs : List V} {k : Nat} {sp : Sp} (F : DefI K mg x C q st ps dvs f fd) (S : FnScope N ps (defScope st)) (len : ∀ vs H Q E, sp vs H Q E → vs.length = ps.length)
    (hbody : ∀ (cdv : Value) (A : Around) (outer : List Env) (s : Shared) (H : Hp) (vs : List V) (Q : VK) (E : XK), Room k (A.deeper (envOfC q (defScope st) s.heap.objs.size f cdv)) → sp vs H Q E →
      ∃ t, PSs (cxOf (L2N.CX P w) P w K mg base N q (defScope st) f cdv A outer s H E) (defBody st) t ∧ t { nx := fun _ H' => Q .non H', rt := Q } (start N vs) H) : CalI P w K mg base (k + 1) x C dvs sp := by
  have ok := F.fn.ok (CX := L2N.CX P w) (P := P) (w := w) (mg := mg) (base := base) S len hbody
  obtain ⟨ds, v, b⟩ := F.bd
  exact ⟨f, fd, ps, ds, F.mkr, ok, F.gl, F.bi, b, v⟩
/-- a static method, read off the class -/
structure CalSN (P : Program) (w : World) (K : PySem.W.Frag) (mg : Str → Option Value) (base : Heap) (k : Nat) (C : Addr) (m : Str) (sp : Sp) : Prop where
  ex : ∃ (f p : Addr) (mc : Value) (fd : FuncData) (ps : List Str), FnOk P w K mg base (L2N.CX P w) k f fd ps sp ∧ ClX.CRead K C mc ∧ SMet K C mc m p f ∧ Binds K fd ps []
structure DefS (K : PySem.W.Frag) (C : Addr) (m q : Str) (st : Stmt) (ps : List Str) (f : Addr) (fd : FuncData) : Prop where
  fn : Fun K m q st f fd
  sm : ∃ (p : Addr) (mc : Value), ClX.CRead K C mc ∧ SMet K C mc m p f
  bi : Binds K fd ps []
theorem calS_ofN {m q : Str} {st : Stmt} {f : Addr} {fd : FuncData} {N ps : List Str} {k : Nat} {sp : Sp} (F : DefS K C m q st ps f fd) (S : FnScope N ps (defScope st)) (len : ∀ vs H Q E, sp vs H Q E → vs.length = ps.length)
    (hbody : ∀ (cdv : Value) (A : Around) (outer : List Env) (s : Shared) (H : Hp) (vs : List V) (Q : VK) (E : XK), Room k (A.deeper (envOfC q (defScope st) s.heap.objs.size f cdv)) → sp vs H Q E →
      ∃ t, PSs (cxOf (L2N.CX P w) P w K mg base N q (defScope st) f cdv A outer s H E) (defBody st) t ∧ t { nx := fun _ H' => Q .non H', rt := Q } (start N vs) H) : CalSN P w K mg base (k + 1) C m sp := by
  obtain ⟨p, mc, a, b⟩ := F.sm
  exact ⟨f, p, mc, fd, ps, fun_okN F.fn S len hbody, a, b, F.bi⟩
end
section
variable {X : Cx} {k j : Nat} {m : Str} {C : Addr} {sp : Sp} {apos pos : Pos} {o e : Expr} {es : List Expr} {t : TA} {ta : TE} {E : L2.St → XK}
def tMethN (C : Addr) (m : Str) (sp : Sp) (E : L2.St → XK) (ta : TE) (t : TA) : TE := fun σ H Q => ta σ H fun x H1 => ∃ a dx fs, x = .ref a ∧ H1 a = some (.ins C dx fs) ∧ fs.lookup m = none ∧ t σ H1 fun vs H2 => sp (x :: vs) H2 Q (E σ)
theorem pe_mmS {pl : Sem Bool} (hc : Cls X.K C) (c : CalMN X.prog X.w X.K X.mg X.base k C m sp) (hr : Room j X.A) (hk : k ≤ j) (hx : ∀ σ, PassesAt (L2N.CX X.prog X.w) X σ (E σ)) (ho : PE X o ta) (ha : PA X (e :: es) t)
    (hst : starEach (e :: es) X.env = (false, eval e X.env) :: starEach es X.env := by rfl) (hpl : (backTo pos (starEach es X.env)).any (·.1) = false := by rfl)
    (ht : eval (.Call (.Attribute o m apos) (e :: es) [] pos) X.env = (do
      let ov ← eval o X.env
      standAt apos.atName
      let (f, first) ← holding [ov] (getMethod ov m pl)
      callWith pos f first (backTo pos (starEach (e :: es) X.env)) (backToKw pos (keywordEach [] X.env))) := by rfl) :
    PE X (.Call (.Attribute o m apos) (e :: es) [] pos) (tMethN C m sp E ta t) := by
  obtain ⟨f, fd, ps, F, hm, b⟩ := c.ex
  refine ⟨fun pins s σ H Q I h => ?_⟩
  refine PySem.W.methodCall_KW (pl := pl) (thn (ho.run pins s σ H _ I h) fun u s1 ⟨x, H1, I1, rx, a, dx, fs, ex, ea, l, q⟩ => ?_) ht
  subst ex
  obtain rfl : u = Value.ref a := rx
  refine getmeth_ok I1 ea hc hm l ?_
  refine PySem.W.callWith_K (first := [.ref a]) (h₀ := X.base) I.ok.mod.kin hm.kp (thn (ha.run pos pins s1 σ H1 _ I1 q) fun us s2 ⟨vs, H2, I2, r, q2⟩ => ⟨I2.kIn, ?_⟩) hst hpl
  exact run_fnS (us := .ref a :: us) (vs := .ref a :: vs) F (hr.mono hk) b (hx σ) I2 (.cons rfl r) q2
def tSMethN (C : Addr) (sp : Sp) (E : L2.St → XK) (ta : TE) (t : TA) : TE := fun σ H Q => ta σ H fun x H1 => x = .ref C ∧ t σ H1 fun vs H2 => sp vs H2 Q (E σ)
theorem pe_smS {pl : Sem Bool} (c : CalSN X.prog X.w X.K X.mg X.base k C m sp) (hr : Room j X.A) (hk : k ≤ j) (hx : ∀ σ, PassesAt (L2N.CX X.prog X.w) X σ (E σ)) (ho : PE X o ta) (ha : PA X (e :: es) t)
    (hst : starEach (e :: es) X.env = (false, eval e X.env) :: starEach es X.env := by rfl) (hpl : (backTo pos (starEach es X.env)).any (·.1) = false := by rfl)
    (ht : eval (.Call (.Attribute o m apos) (e :: es) [] pos) X.env = (do
      let ov ← eval o X.env
      standAt apos.atName
      let (f, first) ← holding [ov] (getMethod ov m pl)
      callWith pos f first (backTo pos (starEach (e :: es) X.env)) (backToKw pos (keywordEach [] X.env))) := by rfl) :
    PE X (.Call (.Attribute o m apos) (e :: es) [] pos) (tSMethN C sp E ta t) := by
  obtain ⟨f, p, mc, fd, ps, F, r, sm, b⟩ := c.ex
  refine ⟨fun pins s σ H Q I h => ?_⟩
  refine PySem.W.methodCall_KW (pl := pl) (thn (ho.run pins s σ H _ I h) fun u s1 ⟨x, H1, I1, rx, ex, q⟩ => ?_) ht
  subst ex
  obtain rfl : u = Value.ref C := rx
  obtain ⟨rest, hp⟩ := sm.rc
  refine PySem.W.method_cls I1.kIn r.ga (PySem.W.cls_bind I1.kIn r.rd sm.at_ (wpAny_call (PySem.W.sm_get (s := { s1 with toks := s1.toks + 1 }) I1.kIn hp (PySem.W.handed_on rfl ?_))))
  have I2 : Inv X pins σ H1 { s1 with toks := s1.toks + 1 } := I1.tok _
  refine PySem.W.callWith_K (first := []) (h₀ := X.base) I1.ok.mod.kin sm.kp (thn (ha.run pos pins _ σ H1 _ I2 q) fun us s2 ⟨vs, H2, I3, r2, q2⟩ => ⟨I3.kIn, ?_⟩) hst hpl
  exact run_fnS F (hr.mono hk) b (hx σ) I3 r2 q2
/-! ### str(o) -/
def rStrOwn (C : Addr) (sp : Sp) : List V → Hp → VK → Prop := fun xs H Q => ∃ a dx fs, xs = [.ref a] ∧ H a = some (.ins C dx fs) ∧ sp [.ref a] H (fun v H' => ∃ z, v = .str z ∧ Q (.str z) H') E0
theorem cr_strOwn (c : CalM X.prog X.w X.K X.mg X.base k C "__str__" sp) (hr : Room j X.A) (hk : k + 2 ≤ j) : CallR X (.type "str") (rStrOwn C sp) := by
  intro pins s σ H xs us Q I r hyp
  obtain ⟨a, dx, fs, rfl, ea, h⟩ := hyp
  obtain rfl := Vals.ref1 r
  obtain ⟨f, fd, ps, F, hm, b⟩ := c.ex
  obtain ⟨mA, J, _⟩ := ins_get I.hok ea
  obtain ⟨od, J, _⟩ := J.look
  have hr2 : Room (k + 2) X.A := hr.mono hk
  have hr1 : Room k X.A.in1.in1 := hr2.in1.in1
  refine PySem.W.kso_call hr1.units0 I.kIn J hm.at_ hm.fn ?_
  have hl : ([Value.ref a] : List Value).length = ps.length := (F.len [.ref a] _ _ _ h)
  have hb := b s [.ref a] I.kIn (by rw [List.append_nil]; exact hl)
  rw [List.append_nil] at hb
  refine wpAny_call (codeAny_mono (F.run X.A.in1.in1 X.stack s H ⟨[.ref a], []⟩ [.ref a] [.ref a] _ E0 hr1 I.env0.in1.in1 hb (.cons rfl .nil) h) fun r s' hq => ?_)
  cases r with
  | error e =>
    obtain ⟨_, _, _, _, _, _, _, _, _, _, _, _, z⟩ := hq
    exact z.elim
  | ok fl =>
    cases fl with
    | ret u =>
      obtain ⟨v, H', I', rv, z, ez, q⟩ := I.after hq
      subst ez
      obtain ⟨t, e⟩ := rv
      subst e
      exact ⟨.str z, H', I', ⟨t, rfl⟩, q⟩
    | next => exact False.elim hq
    | brk => exact False.elim hq
    | cont => exact False.elim hq
end
/-! ### the class of polynomials: what is asked of it -/
structure PolyK (K : PySem.W.Frag) (mg : Str → Option Value) (C : Addr) : Prop where
  cls : Cls K C
  gl : mg "Poly" = some (.ref C)
  nat : NoAttr K C "terms"
  sf : PySem.W.selfFirst K C = true
  ca : PySem.W.findIn K (.ref C) "__class__" = some (some (.builtin "object.__class__"))
  cn : PySem.W.specialIn K (.builtin "object.__class__") "__get__" = some (some (.builtin "getset_descriptor.__get__"))
  ct : PySem.W.takesIn K (.builtin "object.__class__") = some true
  cm : PySem.W.mroIn K C (.type "object") = some true
  kit : PySem.W.kitOne K (.ref C) (.ref C) = some true
  kits : ∀ t ∈ (["tuple", "list", "str", "NoneType", "int", "bool"] : List String), PySem.W.kitOne K (.type t) (.ref C) = some false
  nf : PySem.W.notFirst K C (.ref C) = true
  nfs : ∀ t ∈ (["tuple", "list", "str", "NoneType", "int", "bool"] : List String), PySem.W.notFirst K C (.type t) = true
section
variable {K : PySem.W.Frag} {mg : Str → Option Value} {C a dx : Addr} {H : Hp} {Q : VK} {fs : List (Str × V)} {σ : L2.St} {te : TE} {N B Cc : L2.St → Hp → Prop} {R : VK}
theorem PolyK.ty (T : PolyK K mg C) (e : H a = some (.ins C dx fs)) : TyOf K H (.ref a) (.ref C) := .ins e T.cls T.ca T.cn T.ct T.cm
theorem w_isiP (T : PolyK K mg C) (e : H a = some (.ins C dx fs)) (q : Q (.bl true) H) : rIsi K [.ref a, .ref C] H Q := ⟨_, _, _, _, _, rfl, .own C, .base (T.ty e), T.kit, q⟩
theorem w_isiNP {t : String} {v : V} (T : PolyK K mg C) (ht : t ∈ (["tuple", "list", "str", "NoneType", "int", "bool"] : List String)) (e : TyOf K H v (.type t)) (q : Q (.bl false) H) : rIsi K [v, .ref C] H Q := ⟨_, _, _, _, _, rfl, .own C, .base e, T.kits t ht, q⟩
def RFld (K : PySem.W.Frag) (f : Str) (x : V) (H : Hp) (Q : VK) : Prop := ∃ a C dx fs v, x = .ref a ∧ H a = some (.ins C dx fs) ∧ Cls K C ∧ NoAttr K C f ∧ fs.lookup f = some v ∧ Q v H
theorem w_fld {f : Str} (h : te σ H fun x H1 => RFld K f x H1 Q) : tFld K te f σ H Q := h
theorem rfld {t : V} (T : PolyK K mg C) (e : H a = some (.ins C dx [("terms", t)])) (q : Q t H) : RFld K "terms" (.ref a) H Q := ⟨a, C, dx, _, t, rfl, e, T.cls, T.nat, rfl, q⟩
def RSet (K : PySem.W.Frag) (f : Str) (x y : V) (H : Hp) (R : Hp → Prop) : Prop := ∃ a C dx fs, x = .ref a ∧ H a = some (.ins C dx fs) ∧ Cls K C ∧ NoAttr K C f ∧ fs.length < 1000 ∧ R (upd H a (.ins C dx (putF f y fs)))
theorem w_sfld {f : Str} {ta tv : TE} (h : tv σ H fun y H1 => ta σ H1 fun x H2 => RSet K f x y H2 fun H3 => N σ H3) : sFld K ta tv f ⟨N, R, B, Cc⟩ σ H := h
theorem rset0 {y : V} {R : Hp → Prop} (T : PolyK K mg C) (e : H a = some (.ins C dx [])) (q : R (upd H a (.ins C dx [("terms", y)]))) : RSet K "terms" (.ref a) y H R := ⟨a, C, dx, _, rfl, e, T.cls, T.nat, by decide, q⟩
theorem rset1 {y z : V} {R : Hp → Prop} (T : PolyK K mg C) (e : H a = some (.ins C dx [("terms", z)])) (q : R (upd H a (.ins C dx [("terms", y)]))) : RSet K "terms" (.ref a) y H R := ⟨a, C, dx, _, rfl, e, T.cls, T.nat, (show 1 < 1000 by decide), q⟩
end
end My
/-! what is looked at of an own class, told -/
namespace My
open PySem PySem.Spec PyProof.Rows L2
section
variable {K : PySem.W.Frag} {h : Heap} {mg : Str → Option Value} {f : Addr} {fd : FuncData}
theorem polyB_ok (X : K.In h) (G : h.Ns mainGlobals mg) (c : polyB K "Poly" "terms" = true) : PolyK K mg (He.ga K "Poly") := by
  obtain ⟨c1, c⟩ := He.ba c
  obtain ⟨c2, c⟩ := He.ba c
  obtain ⟨c3, c⟩ := He.ba c
  obtain ⟨c4, c⟩ := He.ba c
  obtain ⟨c5, c⟩ := He.ba c
  obtain ⟨c6, c⟩ := He.ba c
  obtain ⟨c7, c⟩ := He.ba c
  obtain ⟨c8, c⟩ := He.ba c
  obtain ⟨c9, c⟩ := He.ba c
  obtain ⟨ca, c⟩ := He.ba c
  obtain ⟨cb, cc⟩ := He.ba c
  exact { cls := He.cls_ok c2, gl := He.glo_ok X G c1, nat := He.noat_ok c3, sf := c4, ca := He.eqO_ok c5, cn := He.eqO_ok c6, ct := of_decide_eq_true c7, cm := of_decide_eq_true c8, kit := of_decide_eq_true c9, kits := fun t m => of_decide_eq_true (List.all_eq_true.mp ca t m), nf := cb, nfs := fun t m => List.all_eq_true.mp cc t m }
theorem creadB_ok {x : Str} (c : creadB K x = true) : ClX.CRead K (He.ga K x) (.type "type") := by
  obtain ⟨c1, c2⟩ := He.ba c
  exact ⟨c1, He.eqO_ok c2⟩
theorem defM_of {x m q : Str} {st : Stmt} {ps : List Str} (me : (He.Fa.meth x m).ok K = true) (F : ∃ fd, FunD K m q (defArgs st) (defBody st) (defScope st) [] [] (He.fAd K (x, some m)) fd)
    (b : ∀ (kV doc pm : Value) (an : Option Addr) (cdv ct : Value) (us : List Value), us.length = ps.length → bindArgs (PySem.W.fnOf m q (defArgs st) (defBody st) (defScope st) .none kV doc pm an cdv ct) ⟨us, []⟩ = pure (ps.zip us)) :
    ∃ f fd, DefM K (He.ga K x) m q st ps f fd := by
  obtain ⟨fd, F⟩ := F
  exact ⟨_, fd, ⟨fun_of F, He.meth_ok me, F.bindsN b⟩⟩
theorem defS_of {x m q : Str} {st : Stmt} {ps : List Str} (cr : creadB K x = true) (me : staB K x m = true) (F : ∃ fd, FunD K m q (defArgs st) (defBody st) (defScope st) [] [] (He5.wf K (He.ga K x) "staticmethod" m) fd)
    (b : ∀ (kV doc pm : Value) (an : Option Addr) (cdv ct : Value) (us : List Value), us.length = ps.length → bindArgs (PySem.W.fnOf m q (defArgs st) (defBody st) (defScope st) .none kV doc pm an cdv ct) ⟨us, []⟩ = pure (ps.zip us)) :
    ∃ f fd, DefS K (He.ga K x) m q st ps f fd := by
  obtain ⟨fd, F⟩ := F
  obtain ⟨m1, m2⟩ := He.ba me
  obtain ⟨w1, w2⟩ := He5.wrapB_ok m1
  exact ⟨_, fd, ⟨fun_of F, ⟨_, _, creadB_ok cr, ⟨w1, w2, m2⟩⟩, F.bindsN b⟩⟩
theorem defI_of {x q : Str} {st : Stmt} {ps : List Str} {dvs : List V} {n2 : Nat} (X : K.In h) (G : h.Ns mainGlobals mg) (g : (He.Fa.glo x).ok K = true) (mk : (He.Fa.mkr x).ok K = true) (d0 : dvs ≠ [])
    (F : ∃ fd, FunD K "__init__" q (defArgs st) (defBody st) (defScope st) dvs [] (He.fAd K (x, some "__init__")) fd)
    (b : ∀ (T : Addr) (kV doc pm : Value) (an : Option Addr) (cdv ct : Value) (us its : List Value), us.length = ps.length → its.length = dvs.length →
      ∃ k, bindArgs (PySem.W.fnOf "__init__" q (defArgs st) (defBody st) (defScope st) (.ref T) kV doc pm an cdv ct) ⟨us, []⟩ = seqItems? (.ref T) >>= k ∧ k (some its.toArray) = pure (ps.zip (us ++ its.drop dvs.length)))
    (e2 : n2 + dvs.length = ps.length)
    (b2 : ∀ (T : Addr) (kV doc pm : Value) (an : Option Addr) (cdv ct : Value) (us its : List Value), us.length = n2 → its.length = dvs.length →
      ∃ k, bindArgs (PySem.W.fnOf "__init__" q (defArgs st) (defBody st) (defScope st) (.ref T) kV doc pm an cdv ct) ⟨us, []⟩ = seqItems? (.ref T) >>= k ∧ k (some its.toArray) = pure (ps.zip (us ++ its.drop 0))) :
    ∃ f fd, DefI K mg x (He.ga K x) q st ps dvs f fd := by
  obtain ⟨fd, F⟩ := F
  refine ⟨_, fd, ⟨F, He.mkr_ok mk, He.glo_ok X G g, ?_, ?_⟩⟩
  · obtain ⟨ds, v, B⟩ := F.binds1 ps.length dvs.length d0 (by rw [Nat.sub_self]; rfl) b
    rw [List.drop_length] at v
    cases v
    exact B
  · obtain ⟨ds, v, B⟩ := F.binds1 n2 0 d0 (by rw [Nat.sub_zero]; exact e2) b2
    rw [List.drop_zero] at v
    exact ⟨ds, v, B⟩
end
end My
/-! more rules: fields, zip of tuples, max of a tuple of three, f-strings; readings of makings and methods -/
namespace My
open PySem PySem.Spec PyProof.Rows L2
section
variable {X : Cx} {K : PySem.W.Frag} {o e value : Expr} {pos pos' : Pos} {f : Str} {ta tv : TE}
theorem k_fld (h : X.K = K) (he : PE X e ta) (hb : attributeBase e f X.env (eval e X.env) = eval e X.env := by rfl) : PE X (.Attribute e f pos) (tFld K ta f) := h ▸ pe_fld he hb
theorem k_sfld (h : X.K = K) (ha : PE X o ta) (hv : PE X value tv) (hs : swapsWith value (some (.Attribute o f pos')) pos.line X.env = pure false) : PS X (.Assign [.Attribute o f pos'] value pos) (sFld K ta tv f) := h ▸ ps_fld ha hv hs
theorem k_zipA {e2 : Expr} {t : TA} {p tpos : Pos} {elts : List Expr} {kk : Nat} (h : X.K = K) (hg : Gl X "zip") (hm : X.mg "zip" = none) (ha : PA X [e, e2] t)
    (hs : starEach [e, e2] X.env = (false, eval e X.env) :: starEach [e2] X.env := by rfl) (hpl : (backTo pos (starEach [e2] X.env)).any (·.1) = false := by rfl) :
    PI X (.Tuple elts kk tpos) (.Call (.Name "zip" p) [e, e2] [] pos) (RZ.iZipA K t) := h ▸ RZ.pi_zipA hg hm ha hs hpl
end
section
variable {prog : Program} {w : World} {A : Around} {E : Value → Shared → Prop} {s : Shared} {l : Addr} {its : Array Value}
theorem iter_anyTup {Q : Value → Shared → Prop} (hl : s.heap.IsTuple l its)
    (h : ∀ s₂ : Shared, s₂ = { s with heap := s.heap.push { cls := .type "tuple_iterator", data := .fields #[.ref l, .int 0 0] } } →
      (s₂.heap.IsTupleIter s.heap.objs.size l 0 ∧ s₂.heap.IsTuple l its) → (∀ b ∈ [s.heap.objs.size, l], b < s₂.heap.objs.size) → l ≠ s.heap.objs.size → Q (.ref s.heap.objs.size) s₂) :
    wpAny (model prog w) A (pyIter (.ref l)) Q E s := by
  have hlt : l < s.heap.objs.size := by obtain ⟨_, e, _⟩ := hl; exact Heap.lt_size e
  refine wpAny_pyIter_tuple hl (h _ rfl ⟨⟨_, Heap.get?_push_size _ rfl, rfl, rfl⟩, hl.push _⟩ (fun b hb => ?_) (Nat.ne_of_lt hlt))
  show b < (s.heap.push _).objs.size
  rw [Heap.size_push]
  rcases List.mem_cons.mp hb with rfl | hb
  · exact Nat.lt_succ_self _
  · rcases List.mem_cons.mp hb with rfl | hb
    · exact Nat.lt_succ_of_lt hlt
    · cases hb
theorem maxT3_num {Q : Value → Shared → Prop} {a b c : Value} (hh : A.handled = none) (hl : s.heap.IsTuple l #[a, b, c]) (ha : Flt.NumV a) (hb : Flt.NumV b) (hc : Flt.NumV c)
    (h : ∀ h' tk, (∀ d o, s.heap.get? d = some o → h'.get? d = some o) →
      Q (if Flt.ltV (if Flt.ltV a b = true then b else a) c = true then c else (if Flt.ltV a b = true then b else a)) { s with heap := h', toks := tk }) :
    wpAny (model prog w) A (call (.builtin "max") [.ref l]) Q E s := by
  refine call_max_walk (iter_anyTup hl fun s₂ e st hfp hlI => ?_)
  subst e
  refine ⟨_, _, _, _, _, _, _, rfl, Walks.tuple (A := A.in1) hh _ l hlI #[a, b, c], st, hfp, by simp, Flt.cmpOf_gt #[a, b, c] (by simp [ha, hb, hc]), fun v h' tk hP hk => ?_⟩
  have := h h' tk (fun d o e => hk d o (fun z => Nat.ne_of_lt (Heap.lt_size e) (List.mem_singleton.mp z)) (Heap.get?_push_of_some _ e))
  have hv : (if Flt.ltV (if Flt.ltV a b = true then b else a) c = true then c else (if Flt.ltV a b = true then b else a)) = v := by
    cases h1 : Flt.ltV a b
    · cases h2 : Flt.ltV a c <;> simp [argBest, h1, h2] at hP <;> simp [h2] <;> exact hP
    · cases h2 : Flt.ltV b c <;> simp [argBest, h1, h2] at hP <;> simp [h2] <;> exact hP
  exact hv ▸ this
end
def rMaxT3 (K : PySem.W.Frag) : List V → Hp → VK → Prop := fun vs H Q => ∃ (a : Addr) (i j k : Int), vs = [.ref a] ∧ SqT K H a [.int i, .int j, .int k] ∧ ∀ m : Int, (m = i ∨ m = j ∨ m = k) → i ≤ m → j ≤ m → k ≤ m → Q (.int m) H
theorem ltV_int {i j : Int} {t u : Tok} : Flt.ltV (.int i t) (.int j u) = decide (i < j) := by first | rfl | simp [Flt.ltV]
theorem cr_maxT3 {X : Cx} (hc : X.calm = true) : CallR X (.builtin "max") (rMaxT3 X.K) := by
  intro pins s σ H xs us Q I r h
  obtain ⟨a, i, j, k, rfl, hs, q⟩ := h
  obtain rfl := Vals.ref1 r
  obtain ⟨its, rv, hp, _⟩ := I.tuple hs
  obtain ⟨u1, u2, u3, e, r1, r2, r3⟩ := vals3 rv
  obtain ⟨t1, rfl⟩ := r1
  obtain ⟨t2, rfl⟩ := r2
  obtain ⟨t3, rfl⟩ := r3
  have hp' : s.heap.IsTuple a #[Value.int i t1, Value.int j t2, Value.int k t3] := by
    subst e
    exact hp
  refine maxT3_num (I.ok.hd hc) hp' (.int _ _) (.int _ _) (.int _ _) fun h' tk kk => ?_
  by_cases h1 : i < j
  · rw [show Flt.ltV (.int i t1) (.int j t2) = true by rw [ltV_int]; exact decide_eq_true h1, if_pos rfl]
    by_cases h2 : j < k
    · rw [show Flt.ltV (.int j t2) (.int k t3) = true by rw [ltV_int]; exact decide_eq_true h2, if_pos rfl]
      exact ⟨.int k, H, I.kept kk, ⟨_, rfl⟩, q k (.inr (.inr rfl)) (by omega) (by omega) (by omega)⟩
    · rw [show Flt.ltV (.int j t2) (.int k t3) = false by rw [ltV_int]; exact decide_eq_false h2, if_neg Bool.false_ne_true]
      exact ⟨.int j, H, I.kept kk, ⟨_, rfl⟩, q j (.inr (.inl rfl)) (by omega) (by omega) (by omega)⟩
  · rw [show Flt.ltV (.int i t1) (.int j t2) = false by rw [ltV_int]; exact decide_eq_false h1, if_neg Bool.false_ne_true]
    by_cases h2 : i < k
    · rw [show Flt.ltV (.int i t1) (.int k t3) = true by rw [ltV_int]; exact decide_eq_true h2, if_pos rfl]
      exact ⟨.int k, H, I.kept kk, ⟨_, rfl⟩, q k (.inr (.inr rfl)) (by omega) (by omega) (by omega)⟩
    · rw [show Flt.ltV (.int i t1) (.int k t3) = false by rw [ltV_int]; exact decide_eq_false h2, if_neg Bool.false_ne_true]
      exact ⟨.int i, H, I.kept kk, ⟨_, rfl⟩, q i (.inl rfl) (by omega) (by omega) (by omega)⟩
theorem k_maxT {X : Cx} {K : PySem.W.Frag} (h : X.K = K) (hc : X.calm = true) : CallR X (.builtin "max") (rMaxT3 K) := h ▸ cr_maxT3 hc
def rMin3 : List V → Hp → VK → Prop := fun vs H Q => ∃ (i j k : Int), vs = [.int i, .int j, .int k] ∧ Q (.int (if k < (if j < i then j else i) then k else (if j < i then j else i))) H
section
variable {σ : L2.St} {H : Hp} {Q : VK} {K : PySem.W.Frag} {a b d p : Addr} {x y v z : V} {C : Addr} {sp : Sp} {E : L2.St → XK} {dvs ws : List V} {t : TA} {ta te : TE} {m : Str} {i j k : Int} {xs ys : List V}
theorem w_maxT (h : SqT K H a [.int i, .int j, .int k]) (q : ∀ m : Int, (m = i ∨ m = j ∨ m = k) → i ≤ m → j ≤ m → k ≤ m → Q (.int m) H) : rMaxT3 K [.ref a] H Q := ⟨a, i, j, k, rfl, h, q⟩
theorem nuMin2_int : nuMin2 (.int i) (.int j) = some (.int (if j < i then j else i)) := by
  have e : nuLt (.int j) (.int i) = some (decide (j < i)) := by first | rfl | simp [nuLt, nuCB]
  unfold nuMin2
  rw [e]
  by_cases h : j < i
  · rw [if_pos h, decide_eq_true h]
    rfl
  · rw [if_neg h, decide_eq_false h]
    rfl
theorem w_min3 (q : Q (.int (if k < (if j < i then j else i) then k else (if j < i then j else i))) H) : rNuC3 nuMin3 [.int i, .int j, .int k] H Q := ⟨_, _, _, _, rfl, by
  unfold nuMin3
  rw [nuMin2_int]
  exact nuMin2_int, q⟩
theorem ite_tt {A B : Prop} {c : Bool} (h : c = true) (q : A) : if c = true then A else B := by rw [if_pos h]; exact q
theorem ite_ff {A B : Prop} {c : Bool} (h : c = false) (q : B) : if c = true then A else B := by rw [if_neg (by rw [h]; exact Bool.false_ne_true)]; exact q
theorem w_isiNT {ty u : String} (e : TyOf K H v (.type ty)) (n : PySem.W.kitOne K (.type ty) (.type u) = some false) (q : Q (.bl false) H) : rIsi K [v, .ty u] H Q := ⟨_, _, _, _, _, rfl, .ty _, .base e, n, q⟩
theorem w_isiBI {b : Bool} (q : Q (.bl true) H) : rIsi K [.bl b, .ty "int"] H Q := ⟨_, _, _, _, _, rfl, .ty _, .base (.bl b), kit_ty (by decide +kernel), q⟩
theorem w_isiBB {b : Bool} (q : Q (.bl true) H) : rIsi K [.bl b, .ty "bool"] H Q := ⟨_, _, _, _, _, rfl, .ty _, .base (.bl b), kit_ty (by decide +kernel), q⟩
/-! for x in a tuple or a list under a name -/
def iSeqV (K : PySem.W.Frag) (n : Nat) : TI := fun σ H R => ∃ a, σ[n]? = some (some (.ref a)) ∧ (((∃ xs, SqL K H a xs) ∧ R (Itl K a) H) ∨ ((∃ xs, SqT K H a xs) ∧ R (Itt K a) H))
theorem k_piS {X : Cx} {tg e : Expr} {n : Nat} (h : X.K = K) (he : PE X e (tVar n)) : PI X tg e (iSeqV K n) := by
  subst h
  refine ⟨fun pins s σ H R I h => ?_⟩
  obtain ⟨a, e1, h | h⟩ := h
  · exact (pi_list (tg := tg) he).run pins s σ H R I ⟨_, e1, a, rfl, h.1, h.2⟩
  · exact (pi_tup (tg := tg) he).run pins s σ H R I ⟨_, e1, a, rfl, h.1, h.2⟩
def SqS (K : PySem.W.Frag) (b : Bool) (H : Hp) (a : Addr) (xs : List V) : Prop := if b = true then SqT K H a xs else H a = some (.lst xs)
theorem SqS.ch0 {b : Bool} {H' : Hp} (h : SqS K b H a xs) (c : Ch [] H H') : SqS K b H' a xs := by
  cases b
  · exact c.at0 (show H a = some (.lst xs) from h)
  · exact c.sqT (show SqT K H a xs from h)
theorem SqS.put {b : Bool} {o : HO} {o' : List (List L2.Key × V)} (h : SqS K b H a xs) (hd : H d = some (.dT o')) : SqS K b (L2.upd H d o) a xs := by
  cases b
  · show L2.upd H d o a = some (.lst xs)
    rw [upd_ne (fun z => by rw [z] at h; rw [show H d = some (.lst xs) from h] at hd; cases hd)]
    exact h
  · exact sqT_upd (show SqT K H a xs from h) hd trivial
theorem w_forS {N : L2.St → Hp → Prop} {R : VK} {g : TG} {tb : TS} {n : Nat} {α : Type} {E : α → V → Hp → Prop} {ls : List α} {k : Bool} (hS : SqS K k H a xs) (e : σ[n]? = some (some (.ref a))) (Pv : Nat → L2.St → Hp → Prop) (hx : xs.length = ls.length) (h0 : Pv 0 σ H)
    (st : ∀ i σ' H', Pv i σ' H' → SqS K k H' a xs ∧ Els E H' xs ls)
    (hs : ∀ i l x σ H, ls[i]? = some l → Pv i σ H → E l x H → g x σ H fun σ2 H2 => tb ⟨Pv (i + 1), R, N, Pv (i + 1)⟩ σ2 H2) (hd : ∀ σ H, Pv ls.length σ H → N σ H) : iSeqV K n σ H fun J H1 => ForG J g tb N R σ H1 := by
  refine ⟨a, e, ?_⟩
  cases k
  · exact .inl ⟨⟨xs, .of hS⟩, for_eL Pv hx h0 (fun i σ' H' _ hp => ⟨.of (st i σ' H' hp).1, (st i σ' H' hp).2⟩) hs hd⟩
  · exact .inr ⟨⟨xs, hS⟩, for_eT Pv hx h0 (fun i σ' H' _ hp => ⟨(st i σ' H' hp).1, (st i σ' H' hp).2⟩) hs hd⟩
/-! new tuples of ints, by what the heap holds -/
def TuN (l : List Int) (v : V) (H : Hp) : Prop := ∃ a, v = .ref a ∧ H a = some (.tup (ivs l))
def kOf (H : Hp) : V → List Int
  | .ref a => match H a with
    | some (.tup xs) => xs.map fun v => match v with | .int i => i | _ => 0
    | _ => []
  | _ => []
theorem kOf_of {l : List Int} (h : TuN l v H) : kOf H v = l := by
  obtain ⟨a, rfl, e⟩ := h
  show (match H a with
    | some (.tup xs) => xs.map fun v => match v with | .int i => i | _ => 0
    | _ => []) = l
  rw [e]
  show (ivs l).map _ = l
  rw [List.map_map]
  exact List.map_id'' (fun _ => rfl) l
theorem TuN.ch {L : List Addr} {H' : Hp} {l : List Int} (h : TuN l v H) (c : Ch L H H') : TuN l v H' := let ⟨a, e, q⟩ := h; ⟨a, e, c.tup q⟩
def exOf : List Int → Ex
  | [_, i, j, k] => (i, j, k)
  | _ => (0, 0, 0)
theorem els_mem {α : Type} {E : α → V → Hp → Prop} {ls : List α} (h : Els E H xs ls) {x : V} (m : x ∈ xs) : ∃ l ∈ ls, E l x H := by
  obtain ⟨i, hi, rfl⟩ := List.getElem_of_mem m
  obtain ⟨l, e, q⟩ := h.get (List.getElem?_eq_getElem hi)
  exact ⟨l, List.mem_of_getElem? e, q⟩
theorem els_map {α β : Type} {E : α → V → Hp → Prop} {ls : List α} {f : V → β} {g : α → β} (h : Els E H xs ls) (i : ∀ l x, l ∈ ls → E l x H → f x = g l) : xs.map f = ls.map g := by
  apply List.ext_getElem?
  intro k
  rw [List.getElem?_map, List.getElem?_map]
  cases e : ls[k]? with
  | none =>
    rw [List.getElem?_eq_none (by rw [h.len]; exact List.getElem?_eq_none_iff.mp e)]
    rfl
  | some l =>
    obtain ⟨x, e1, e2⟩ := h.at_ k l e
    rw [e1]
    show some (f x) = some (g l)
    rw [i l x (List.mem_of_getElem? e) e2]
/-- sorted rows of a table -/
theorem sort_rows {tb : Tb} {out ys : List V} (he : Els (fun p v H => TuN (exr p.1) v H) H out (tb.filter fun p => decide (p.2 ≠ 0))) (hp : ys.Perm out) (hs : ys.Pairwise fun x y => SrtT.lexF (kOf H x) (kOf H y) = false) :
    ∃ es : List Ex, es.Perm (kept tb) ∧ (es.Pairwise fun x y => SrtT.lexF (exr x) (exr y) = false) ∧ Els (fun e v H => TuN (exr e) v H) H ys es := by
  refine ⟨ys.map fun v => exOf (kOf H v), ?_, ?_, ?_⟩
  · have e1 : out.map (fun v => exOf (kOf H v)) = kept tb := by
      unfold kept
      refine els_map he fun p x _ h => ?_
      rw [kOf_of h]
      rfl
    rw [← e1]
    exact hp.map _
  · rw [List.pairwise_map]
    refine List.Pairwise.imp_of_mem ?_ hs
    intro x y hx hy h
    obtain ⟨p, _, e1⟩ := els_mem he (hp.mem_iff.mp hx)
    obtain ⟨q, _, e2⟩ := els_mem he (hp.mem_iff.mp hy)
    rw [kOf_of e1, kOf_of e2] at h
    rw [kOf_of e1, kOf_of e2]
    exact h
  · refine ⟨(List.length_map ..).symm, fun i e h => ?_⟩
    rw [List.getElem?_map] at h
    obtain ⟨v, hv, rfl⟩ := Option.map_eq_some_iff.mp h
    refine ⟨v, hv, ?_⟩
    obtain ⟨p, _, e1⟩ := els_mem he (hp.mem_iff.mp (List.mem_of_getElem? hv))
    rw [kOf_of e1]
    exact e1
/-! makings, methods -/
def MkS (C : Addr) (sp : Sp) (ws : List V) (E : XK) (H1 : Hp) (Q : VK) : Prop := ∀ x dx, H1 x = none → H1 dx = none → dx ≠ x → sp (.ref x :: ws) (L2.upd (L2.upd H1 dx (.own x)) x (.ins C dx [])) (fun v H2 => v = .non ∧ Q (.ref x) H2) E
theorem w_mkS (h : t σ H fun vs H1 => MkS C sp (vs ++ dvs) (E σ) H1 Q) : tMakeS C sp dvs E t σ H Q := h
def RMe (C : Addr) (m : Str) (x : V) (H : Hp) (R : Prop) : Prop := ∃ a dx fs, x = .ref a ∧ H a = some (.ins C dx fs) ∧ fs.lookup m = none ∧ R
theorem w_mmS (h : ta σ H fun x H1 => RMe C m x H1 (t σ H1 fun vs H2 => sp (x :: vs) H2 Q (E σ))) : tMethN C m sp E ta t σ H Q := h
theorem w_mm (h : ta σ H fun x H1 => RMe C m x H1 (t σ H1 fun vs H2 => sp (x :: (vs ++ dvs)) H2 Q E0)) : tMeth C m sp dvs E0 ta t σ H Q := h
theorem rme {R : Prop} {dx : Addr} {fs : List (Str × V)} (h : H a = some (.ins C dx fs)) (hl : fs.lookup m = none) (q : R) : RMe C m (.ref a) H R := ⟨a, dx, fs, rfl, h, hl, q⟩
theorem w_smS (h : ta σ H fun x H1 => x = .ref C ∧ t σ H1 fun vs H2 => sp vs H2 Q (E σ)) : tSMethN C sp E ta t σ H Q := h
theorem w_yes {R : Bool → Hp → Prop} (h : R true H) : tYes σ H R := h
theorem w_and1 {A B : Prop} (h : A) (q : B) : A ∧ B := ⟨h, q⟩
theorem w_refl {B : Prop} (q : B) : V.ref C = V.ref C ∧ B := ⟨rfl, q⟩
/-! f-strings -/
theorem w_fmt {te : TE} (h : te σ H fun x H1 => (∃ y : Str, x = .str y ∧ y.length ≤ sizeLine ∧ Q (.str y) H1) ∨ ∃ i : Int, x = .int i ∧ i.natAbs.log2 < 1920 ∧ Q (.str (toString i)) H1) : tFmt te σ H Q := h
theorem pj_nil {X : Cx} : PJ X [] [] := .nil
theorem pj_cons {X : Cx} {e : Expr} {t : TE} {es : List Expr} {ts : List TE} (h : PE X e t) (r : PJ X es ts) : PJ X (e :: es) (t :: ts) := .cons h r
/-! sorted, zip -/
theorem w_cbk {r : List V → List V → Hp → VK → Prop} {tk : TA} (h : t σ H fun vs H1 => tk σ H1 fun zs H2 => r vs zs H2 Q) : tCKw r t tk σ H Q := h
theorem w_iZ {S : It → Hp → Prop} (h : t σ H fun vs H1 => ∃ a b xs ys, vs = [.ref a, .ref b] ∧ ((SqL K H1 a xs ∧ SqL K H1 b ys ∧ S (Itz K a b) H1) ∨ (SqT K H1 a xs ∧ SqT K H1 b ys ∧ S (RZ.ItzT K a b) H1))) : RZ.iZipA K t σ H S := h
theorem w_iZr {S1 S2 : Addr → Addr → Prop} (h : SqT K H a xs) (h2 : SqT K H b ys) (q : S2 a b) : ∃ a' b' xs' ys', [V.ref a, V.ref b] = [.ref a', .ref b'] ∧ ((SqL K H a' xs' ∧ SqL K H b' ys' ∧ S1 a' b') ∨ (SqT K H a' xs' ∧ SqT K H b' ys' ∧ S2 a' b')) := ⟨a, b, xs, ys, rfl, .inr ⟨h, h2, q⟩⟩
end
end My
/-! == of tuples and lists of tuples, of texts -/
namespace My
open PySem PySem.Spec PyProof.Rows L2
section
variable {α : Type} [DecidableEq α] {D : α → PyData}
theorem eqv_all (h : ∀ x y, PyData.eqv (D x) (D y) = decide (x = y)) : ∀ p r : List α, PyData.eqvAll (p.map D) (r.map D) = decide (p = r)
  | [], [] => by simp [PyData.eqvAll]
  | [], y :: r => by simp [PyData.eqvAll]
  | x :: p, [] => by simp [PyData.eqvAll]
  | x :: p, y :: r => by
    have ih := eqv_all h p r
    show (PyData.eqv (D x) (D y) && PyData.eqvAll (p.map D) (r.map D)) = _
    rw [ih, h]
    by_cases e : x = y
    · subst e
      simp
    · simp [e]
omit [DecidableEq α] in
theorem lay_all (h : ∀ x, PyData.canLay0 (D x) = true) : ∀ p : List α, PyData.canLayAll0 (p.map D) = true
  | [] => rfl
  | x :: p => by
    show (PyData.canLay0 (D x) && PyData.canLayAll0 (p.map D)) = true
    rw [lay_all h p, h]
    rfl
omit [DecidableEq α] in
theorem depth_all {d : Nat} (h : ∀ x, PyData.depth (D x) ≤ d) : ∀ p : List α, PyData.depthAll (p.map D) ≤ d
  | [] => Nat.zero_le _
  | x :: p => by
    show max (PyData.depth (D x)) (PyData.depthAll (p.map D)) ≤ d
    exact Nat.max_le.mpr ⟨h x, depth_all h p⟩
omit [DecidableEq α] in
theorem shaped_T (h1 : ∀ x, PyData.canLay0 (D x) = true) (h2 : ∀ x, PyData.depth (D x) ≤ 10) (p : List α) : SeqAt.shaped (.tuple (p.map D)) = true := by
  show (PyData.canLayAll0 (p.map D) && decide (PyData.depthAll (p.map D) + 1 ≤ 64)) = true
  have := depth_all h2 p
  rw [lay_all h1, decide_eq_true (by omega)]
  rfl
omit [DecidableEq α] in
theorem shaped_L (h1 : ∀ x, PyData.canLay0 (D x) = true) (h2 : ∀ x, PyData.depth (D x) ≤ 10) (p : List α) : SeqAt.shaped (.list (p.map D)) = true := by
  show (PyData.canLayAll0 (p.map D) && decide (PyData.depthAll (p.map D) + 1 ≤ 64)) = true
  have := depth_all h2 p
  rw [lay_all h1, decide_eq_true (by omega)]
  rfl
omit [DecidableEq α] in
theorem dp_els {K : PySem.W.Frag} {H : Hp} {E : α → V → Hp → Prop} (h : ∀ l v, E l v H → Dp K H v (D l)) : ∀ {xs : List V} {ls : List α}, Els E H xs ls → DpAll K H xs (ls.map D)
  | [], [], _ => .nil
  | [], _ :: _, e => by cases e.len
  | _ :: _, [], e => by cases e.len
  | x :: xs, l :: ls, e => by
    obtain ⟨v, e1, e2⟩ := e.at_ 0 l rfl
    cases e1
    refine .cons (h _ _ e2) (dp_els h (E := E) ⟨by have := e.len; simp only [List.length_cons] at this; omega, fun i m q => e.at_ (i + 1) m q⟩)
end
theorem sIx_nat' (n d k : Nat) : HT.sIx n d (some (k : Int)) = min k n := HT.sIx_nat n d k
theorem cutV_to {xs : List V} {k : Nat} {i : Int} (hi : i = (k : Int)) (h : k ≤ xs.length) : cutV xs none (some i) = xs.take k := by
  subst hi
  unfold cutV
  rw [sIx_nat', HT.sIx_none, List.drop_zero, Nat.sub_zero, Nat.min_eq_left h]
theorem cutV_from {xs : List V} {k : Nat} {i : Int} (hi : i = (k : Int)) : cutV xs (some i) none = xs.drop k := by
  subst hi
  unfold cutV
  rw [sIx_nat', HT.sIx_none]
  by_cases h : k ≤ xs.length
  · rw [Nat.min_eq_left h]
    exact List.take_of_length_le (by rw [List.length_drop]; omega)
  · rw [Nat.min_eq_right (by omega), Nat.sub_self, List.take_zero, List.drop_eq_nil_of_le (by omega)]
section
variable {K : PySem.W.Frag} {H : Hp} {Q : VK} {a b : Addr} {xs ys : List V} {lo hi : Option Int}
theorem w_catA (h : SqT K H a xs) (h2 : SqT K H b ys) (hz : xs.length + ys.length ≤ sizeLine) (q : ∀ p H', Ch [] H H' → SqT K H' p (xs ++ ys) → Q (.ref p) H') : rCatA K (.ref a) (.ref b) H Q :=
  ⟨a, b, xs, ys, rfl, rfl, h, h2, hz, fun e => q b H .refl (by rw [e]; exact h2), fun _ e => q a H .refl (by rw [e, List.append_nil]; exact h), fun _ _ p hp => q p _ (Ch.new hp) (.of upd_same)⟩
theorem w_slTn (h : SqT K H a xs) (hn : ¬ (HT.sIx xs.length 0 lo = 0 ∧ HT.sIx xs.length xs.length hi = xs.length)) (q : ∀ p H', H p = none → Ch [] H H' → H' p = some (.tup (cutV xs lo hi)) → Q (.ref p) H') : rSlA K (.ref a) lo hi H Q :=
  ⟨a, xs, rfl, h, fun z => absurd z hn, fun _ p hp => q p _ hp (Ch.new hp) upd_same⟩
end
def Tm.d (t : Tm) : PyData := .tuple ([t.c, t.i, t.j, t.k].map PyData.int)
theorem tm_eqv (t u : Tm) : PyData.eqv t.d u.d = decide (t = u) := by
  show PyData.eqvAll ([t.c, t.i, t.j, t.k].map PyData.int) ([u.c, u.i, u.j, u.k].map PyData.int) = _
  rw [eqv_ints, decide_eq_decide]
  exact ⟨fun h => Tm.l_inj h, fun h => by rw [h]⟩
theorem tm_lay (t : Tm) : PyData.canLay0 t.d = true := by
  show PyData.canLayAll0 ([t.c, t.i, t.j, t.k].map PyData.int) = true
  exact lay_ints _
theorem tm_depth (t : Tm) : PyData.depth t.d ≤ 10 := by
  show PyData.depthAll ([t.c, t.i, t.j, t.k].map PyData.int) + 1 ≤ 10
  rw [depth_ints]
  decide
section
variable {K : PySem.W.Frag} {H : Hp} {Q : VK} {a b : Addr} {ts us : List Tm} {xs ys : List V} {t u : Tm}
theorem dp_tm {v : V} (h : Tme K t v H) : Dp K H v t.d := by
  obtain ⟨a, rfl, h⟩ := h
  exact .tup h (dp_ivs [t.c, t.i, t.j, t.k])
theorem w_eqTm (h1 : TmT K H a ts) (h2 : TmT K H b us) (q : Q (.bl (decide (ts = us))) H) : rEqD K (.ref a) (.ref b) H Q := by
  obtain ⟨xs, e1, m1⟩ := h1
  obtain ⟨ys, e2, m2⟩ := h2
  refine ⟨_, _, .tup e1 (dp_els (fun _ _ h => dp_tm h) m1), .tup e2 (dp_els (fun _ _ h => dp_tm h) m2), shaped_T tm_lay tm_depth _, shaped_T tm_lay tm_depth _, ?_⟩
  show Q (.bl (PyData.eqvAll (ts.map Tm.d) (us.map Tm.d))) H
  rw [eqv_all tm_eqv]
  exact q
theorem w_neTmL (h1 : SqL K H a xs) (m1 : Tms K H xs ts) (h2 : SqL K H b ys) (m2 : Tms K H ys us) (q : Q (.bl (!decide (ts = us))) H) : rNeD K (.ref a) (.ref b) H Q := by
  refine ⟨_, _, .lst h1 (dp_els (fun _ _ h => dp_tm h) m1), .lst h2 (dp_els (fun _ _ h => dp_tm h) m2), shaped_L tm_lay tm_depth _, shaped_L tm_lay tm_depth _, ?_⟩
  show Q (.bl (!PyData.eqvAll (ts.map Tm.d) (us.map Tm.d))) H
  rw [eqv_all tm_eqv]
  exact q
theorem w_neTm1 (h1 : SqT K H a [.int t.c, .int t.i, .int t.j, .int t.k]) (h2 : SqT K H b [.int u.c, .int u.i, .int u.j, .int u.k]) (q : Q (.bl (!decide (t = u))) H) : rNeD K (.ref a) (.ref b) H Q := by
  refine ⟨_, _, .tup h1 (dp_ivs [t.c, t.i, t.j, t.k]), .tup h2 (dp_ivs [u.c, u.i, u.j, u.k]), tm_shaped t, tm_shaped u, ?_⟩
  show Q (.bl (!PyData.eqv t.d u.d)) H
  rw [tm_eqv]
  exact q
where tm_shaped (t : Tm) : SeqAt.shaped (.tuple ([t.c, t.i, t.j, t.k].map PyData.int)) = true := shaped_ints _
theorem str_eqv (x y : Str) : PyData.eqv (.str x) (.str y) = decide (x = y) := by
  first
  | rfl
  | (show (x == y) = _; by_cases h : x = y <;> simp [h])
theorem lay_strs : ∀ p : List Str, (∀ x ∈ p, PyData.canLay0 (.str x) = true) → PyData.canLayAll0 (p.map PyData.str) = true
  | [], _ => rfl
  | x :: p, h => by
    show (PyData.canLay0 (.str x) && PyData.canLayAll0 (p.map PyData.str)) = true
    rw [lay_strs p fun y m => h y (List.mem_cons_of_mem _ m), h x List.mem_cons_self]
    rfl
theorem shaped_strs (p : List Str) (h : ∀ x ∈ p, PyData.canLay0 (.str x) = true) : SeqAt.shaped (.tuple (p.map PyData.str)) = true := by
  show (PyData.canLayAll0 (p.map PyData.str) && decide (PyData.depthAll (p.map PyData.str) + 1 ≤ 64)) = true
  have := depth_all (D := PyData.str) (d := 0) (fun _ => Nat.zero_le _) p
  rw [lay_strs p h, decide_eq_true (by omega)]
  rfl
theorem w_neStrs {p r : List Str} (h1 : SqT K H a (p.map V.str)) (h2 : SqT K H b (r.map V.str)) (hp : ∀ x ∈ p, PyData.canLay0 (.str x) = true) (hr : ∀ x ∈ r, PyData.canLay0 (.str x) = true) (q : Q (.bl (!decide (p = r))) H) : rNeD K (.ref a) (.ref b) H Q := by
  refine ⟨_, _, .tup h1 (dp p), .tup h2 (dp r), shaped_strs p hp, shaped_strs r hr, ?_⟩
  show Q (.bl (!PyData.eqvAll (p.map PyData.str) (r.map PyData.str))) H
  rw [eqv_all str_eqv]
  exact q
where dp : ∀ p : List Str, DpAll K H (p.map V.str) (p.map PyData.str)
  | [] => .nil
  | x :: p => .cons (.str x) (dp p)
end
end My
/-! xs[::-1] of a list; in over a list of ints -/
namespace My
open PySem PySem.Spec PyProof.Rows L2
def tRevS (K : PySem.W.Frag) (te ts : TE) : TE := fun σ H Q => te σ H fun x H1 => ts σ H1 fun v H2 => v = .int (-1) ∧ ∃ a xs, x = .ref a ∧ SqL K H2 a xs ∧ ∀ p, H2 p = none → Q (.ref p) (upd H2 p (.lst xs.reverse))
theorem pe_revK {X : Cx} {K : PySem.W.Frag} {e st : Expr} {te ts : TE} {p2 pos : Pos} (hk : X.K = K) (he : PE X e te) (hs : PE X st ts) : PE X (.Subscript e (.Slice none none (some st) p2) pos) (tRevS K te ts) := by
  subst hk
  refine ⟨fun pins s σ H Q I h => ?_⟩
  refine Subscript_ (thn (he.run pins s σ H _ I h) fun v s1 ⟨x, H1, I1, r1, q1⟩ => ?_)
  refine wpAny_Slice ?_
  rw [evalPart_none]
  refine wpAny_pure ?_
  rw [evalPart_some]
  refine wpAny_pure ?_
  refine thn (hs.run pins s1 σ H1 _ I1 q1) fun vs s3 ⟨x2, H2, I2, r2, e2, a, xs, ex, hx, q⟩ => ?_
  subst e2 ex
  obtain ⟨t, rfl⟩ := r2
  obtain rfl : v = Value.ref a := r1
  have I4 : Inv X pins σ H2 { s3 with heap := s3.heap.push { cls := .type "slice", data := .fields #[.none, .none, .int (-1) t] } } := I2.kept (t' := s3.toks) fun b ob q => Heap.get?_push_of_some _ q
  show wpAny (model X.prog X.w) X.A (subscriptTail e (.Slice none none (some st) p2) (.ref a) (.ref s3.heap.objs.size)) (EP X pins σ Q) X.xe { s3 with heap := s3.heap.push { cls := .type "slice", data := .fields #[.none, .none, .int (-1) t] } }
  generalize hs4 : ({ s3 with heap := s3.heap.push { cls := .type "slice", data := .fields #[.none, .none, .int (-1) t] } } : Shared) = s4 at I4 ⊢
  have hsl : s4.heap.IsSliceOf s3.heap.objs.size .none .none (.int (-1) t) := by
    subst hs4
    exact Heap.IsSliceOf.new ..
  obtain ⟨its, r, ht, hz⟩ := I4.list hx
  refine tail_any (T := "list") (ops := [.ref a, .ref s3.heap.objs.size]) ht.isList.typeIs slot_list_getitem.lookup ?_ (by with_unfolding_all rfl)
  refine wpAny_getItem_list_slice ht.isList hsl .none .none (.int (-1) t) (by decide) ?_ (by rw [List.size_toArray]; rw [← r.length]; exact hz)
  rw [PySem.W.krv_pick]
  refine ⟨.ref s4.heap.objs.size, _, I4.laid (t' := s4.toks) (o := .lst xs.reverse) (fun b ob q => Heap.get?_push_of_some _ q) (Nat.le_refl _) ?_, rfl, q _ (I4.hok.fresh (Nat.le_refl _))⟩
  refine ⟨by rw [List.length_reverse]; exact hz, its.reverse, 0, r.reverse, Heap.get?_push_size _ rfl⟩
section
variable {σ : L2.St} {H : Hp} {Q : VK} {K : PySem.W.Frag} {a : Addr} {xs : List V} {ns : List Int} {i : Int} {te ts : TE}
theorem w_par3 {n m l : Nat} {tr : TA} {N B C : L2.St → Hp → Prop} {R : VK} (h : tr σ H fun vs H1 => ∃ u v w, vs = [u, v, w] ∧ N (((σ.set n (some u)).set m (some v)).set l (some w)) H1) : tPar3 n m l tr ⟨N, R, B, C⟩ σ H := h
theorem w_three {u v w : V} {S : V → V → V → Prop} (h : S u v w) : ∃ u' v' w', [u, v, w] = [u', v', w'] ∧ S u' v' w' := ⟨u, v, w, rfl, h⟩
def RRev (K : PySem.W.Frag) (x v : V) (H : Hp) (Q : VK) : Prop := v = .int (-1) ∧ ∃ a xs, x = .ref a ∧ SqL K H a xs ∧ ∀ p, H p = none → Q (.ref p) (upd H p (.lst xs.reverse))
theorem w_revS (h : te σ H fun x H1 => ts σ H1 fun v H2 => RRev K x v H2 Q) : tRevS K te ts σ H Q := h
theorem rrev (h : SqL K H a xs) (q : ∀ p H', H p = none → Ch [] H H' → H' p = some (.lst xs.reverse) → Q (.ref p) H') : RRev K (.ref a) (.int (-1)) H Q := ⟨rfl, a, xs, rfl, h, w_new q⟩
theorem inV_ints : inV (.int i) (ivs ns) = decide (i ∈ ns) := by
  unfold inV ivs
  rw [List.any_map]
  induction ns with
  | nil => rfl
  | cons n ns ih =>
    rw [List.any_cons, ih]
    have e : (fun y => eqV y (V.int i)) (V.int n) = decide (n = i) := by first | rfl | simp [eqV]
    show ((fun y => eqV y (V.int i)) (V.int n) || _) = _
    rw [e]
    by_cases h : n = i
    · subst h
      simp
    · have : i ≠ n := fun z => h z.symm
      simp [h, this]
theorem w_inL (h : SqL K H a (ivs ns)) (q : Q (.bl (decide (i ∈ ns))) H) : rIn K false (.int i) (.ref a) H Q := by
  refine ⟨a, ivs ns, rfl, .inl h, rfl, ?_, ?_⟩
  · rw [List.all_eq_true]
    intro x hx
    obtain ⟨n, _, rfl⟩ := List.mem_map.mp hx
    rfl
  · rw [if_neg Bool.false_ne_true, inV_ints]
    exact q
end
/-! x or y by truth (texts); p == v of an own class -/
theorem k_orT {X : Cx} {K : PySem.W.Frag} {a b : Expr} {ta tb : TE} {pos : Pos} (h : X.K = K) (ha : PE X a ta) (hb : PE X b tb) : PE X (.BoolOp .Or [a, b] pos) (tOrT K ta tb) := by
  subst h
  exact pe_orT ha (pe_one hb)
theorem k_eqOwn {X : Cx} {K : PySem.W.Frag} {k j : Nat} {C : Addr} {sp : Sp} (h : X.K = K) (c : CalM X.prog X.w X.K X.mg X.base k C "__eq__" sp) (hr : Room j X.A) (hk : k ≤ j) : OpR X (compareOp .Eq) (rOwnEq K C sp) := by
  subst h
  exact op_eqOwn c hr hk
section
variable {σ : L2.St} {H : Hp} {Q : VK} {K : PySem.W.Frag} {mg : Str → Option Value} {C a b dx dy : Addr} {fs gs : List (Str × V)} {te ts ta tb : TE} {sp : Sp} {x y : Str} {c d : Bool}
def ROrT (K : PySem.W.Frag) (v : V) (H1 : Hp) (tb : Hp → VK → Prop) (Q : VK) : Prop := ∃ k, TruV K v H1 k ∧ if k = true then Q v H1 else tb H1 Q
theorem w_orT (h : ta σ H fun v H1 => ROrT K v H1 (fun H Q => tb σ H Q) Q) : tOrT K ta tb σ H Q := h
theorem rorS {tb : Hp → VK → Prop} (hl : x.length ≤ sizeLine) (q1 : x.length ≠ 0 → Q (.str x) H) (q2 : x.length = 0 → tb H Q) : ROrT K (.str x) H tb Q := by
  refine ⟨_, ⟨hl, rfl⟩, ?_⟩
  by_cases e : x.length = 0
  · rw [if_neg (by simp [e])]
    exact q2 e
  · rw [if_pos (by
      show ((x.length : Int) != 0) = true
      rw [bne_iff_ne]
      omega)]
    exact q1 e
/-- p == v for p of the own class: v an instance of it or of a plain kind -/
theorem reqOwn (T : PolyK K mg C) (ha : H a = some (.ins C dx fs)) (hb : H b = some (.ins C dy gs)) (h : sp [.ref a, .ref b] H Q E0) : rOwnEq K C sp (.ref a) (.ref b) H Q := ⟨a, dx, fs, _, rfl, ha, T.ty hb, T.nf, h⟩
theorem reqOther {v : V} {t : String} (T : PolyK K mg C) (ht : t ∈ (["tuple", "list", "str", "NoneType", "int", "bool"] : List String)) (ha : H a = some (.ins C dx fs)) (e : TyOf K H v (.type t)) (h : sp [.ref a, v] H Q E0) : rOwnEq K C sp (.ref a) v H Q := ⟨a, dx, fs, _, rfl, ha, e, T.nfs t ht, h⟩
theorem w_eqB (h : Q (.bl (decide (c = d))) H) : rEq (.bl c) (.bl d) H Q := ⟨rfl, by
  have e : decide (V.bl c = V.bl d) = decide (c = d) := by
    by_cases q : c = d
    · subst q
      simp
    · simp [q]
  first | exact h | (rw [e]; exact h)⟩
end
end My
open My PySem PySem.Spec PyProof.Rows L2
local macro_rules | `(tactic| walk_at "w1") => `(tactic| first
  | (with_reducible first
    | refine w_seq ?_
    | refine w_asg ?_
    | refine w_asgG ?_
    | refine w_ret ?_
    | refine w_drop ?_
    | refine w_if ?_
    | refine w_next ?_
    | refine w_break ?_
    | refine w_continue ?_
    | refine w_par ?_
    | refine w_two ?_
    | refine w_c ?_
    | refine w_op ?_
    | refine w_un ?_
    | refine w_I0 ?_
    | refine w_U ?_
    | refine w_eqI ?_
    | refine w_neI ?_
    | refine w_test ?_
    | refine w_B ?_
    | refine w_bl ?_
    | refine w_int ?_
    | refine w_N ?_
    | refine w_and ?_
    | refine w_or ?_
    | refine w_not ?_
    | refine w_andV ?_
    | refine w_orV ?_
    | refine w_notV ?_
    | refine w_ifE ?_
    | refine w_nil ?_
    | refine w_cons ?_
    | refine w_cb ?_
    | refine w_call ?_
    | refine w_tup ?_
    | refine w_lst ?_
    | refine w_abs ?_
    | refine w_max2 ?_
    | refine w_min2 ?_
    | refine w_int1 ?_
    | refine w_int1b ?_
    | refine w_gcd ?_
    | refine w_sl ?_
    | refine w_nopart ?_
    | refine w_part ?_
    | refine w_gname ?_
    | refine w_gsub ?_
    | refine w_gcons ?_
    | refine w_gnil ?_
    | refine w_bm ?_
    | refine w_for ?_
    | refine w_lc ?_
    | refine w_iL ?_
    | refine w_iT ?_
    | refine w_iR1 ?_
    | refine w_iR2 ?_
    | refine w_iE ?_
    | refine w_iV ?_
    | refine w_iR3 ?_
    | refine w_tru ?_
    | refine w_bits ?_
    | refine w_asg2 ?_
    | refine w_iS ?_
    | refine w_iSr ?_
    | refine w_tyS ?_
    | refine w_eqS ?_
    | refine w_neS ?_
    | refine w_notInS ?_
    | refine w_starts ?_
    | refine w_dget ?_
    | refine w_dget2 ?_
    | refine w_dput ?_
    | refine w_fld ?_
    | refine w_sfld ?_
    | refine w_iK ?_
    | refine w_callS ?_
    | refine w_mkS ?_
    | refine w_mmS ?_
    | refine w_mm ?_
    | refine w_smS ?_
    | refine w_refl ?_
    | refine w_cbk ?_
    | refine w_iZ ?_
    | refine w_min3 ?_
    | refine w_isiII ?_
    | refine w_isiIB ?_
    | refine w_yes ?_)
  | ((with_reducible refine' w_var ?e ?_); (case e => with_unfolding_all rfl))
  | (with_reducible refine w_mod (by decide) ?_)
  | (with_reducible refine w_div (by decide) (by decide) ?_)
  | (with_reducible refine w_pow (by decide) (by decide) (by decide) ?_)
  | (with_reducible refine w_mulr (by decide) ?_)
  | (with_reducible refine w_mull (by decide) ?_)
  | ((with_reducible refine' w_addS ?h ?_); (case h => walk_at "sl"))
  | ((with_reducible refine' w_slS ?h ?_); (case h => walk_at "sl"))
  | ((with_reducible refine' w_lenS ?h ?_); (case h => walk_at "sl"))
  | ((with_reducible refine' w_ixL ?h ?e ?_); (case h => exact SqL.of (by assumption)); (case e => with_unfolding_all rfl))
  | ((with_reducible refine' w_ixT ?h ?e ?_); (case h => walk_at "ht"); (case e => with_unfolding_all rfl))
  | ((with_reducible refine' ite_tt ?h ?_); (case h => first | decide | exact rfl))
  | ((with_reducible refine' ite_ff ?h ?_); (case h => first | decide | exact rfl))
  | ((with_reducible refine' w_isiTT ?h ?_); (case h => walk_at "ht"))
  | ((with_reducible refine' w_gtup ?h ?l ?_); (case h => walk_at "ht"); (case l => rfl))
  | ((with_reducible refine' w_iTr ?h ?_); (case h => walk_at "ht"))
  | ((with_reducible refine' w_iLr ?h ?_); (case h => first | exact SqL.of (by assumption) | assumption))
  | ((with_reducible refine' w_lenT ?h ?_); (case h => walk_at "ht"))
  | ((with_reducible refine' w_lenL ?h ?_); (case h => first | exact SqL.of (by assumption) | assumption)))
local macro_rules | `(tactic| walk_at "ht") => `(tactic| first
  | assumption
  | exact Ch.sqT (by assumption) (by assumption)
  | exact SqT.of (by assumption)
  | exact Ch.sqT (by assumption) (SqT.of (by assumption))
  | exact Ch.sqT (by assumption) (Ch.sqT (by assumption) (by assumption))
  | exact Ch.sqT (by assumption) (Ch.sqT (by assumption) (SqT.of (by assumption)))
  | exact Ch.sqT (by assumption) (Ch.sqT (by assumption) (Ch.sqT (by assumption) (by assumption))))
local macro_rules | `(tactic| walk_at "go") => `(tactic| repeat (walk_at "w1"))
local macro_rules | `(tactic| walk_at "hf") => `(tactic| first
  | assumption
  | (refine Ch.sqT (by assumption) ?_; walk_at "hf")
  | (refine SqL.of ?_; assumption)
  | (refine SqT.of ?_; walk_at "hf")
  | (refine Ch.at0 (by assumption) ?_; walk_at "hf")
  | (refine Ch.sq0 (by assumption) ?_; walk_at "hf")
  | (refine Ch.at1 (by assumption) (by first | assumption | exact Ne.symm (by assumption) | exact ne_of_none (by assumption) (by assumption) | exact Ne.symm (ne_of_none (by assumption) (by assumption))) ?_; walk_at "hf"))
local macro_rules | `(tactic| walk_at "sz") => `(tactic| first
  | assumption
  | (refine sz_le ?_; simp only [List.length_map, List.length_append, List.length_cons, List.length_nil, List.length_replicate, List.length_take, List.length_drop, List.length_range, List.length_set]; omega)
  | (refine sz_lt ?_; simp only [List.length_map, List.length_append, List.length_cons, List.length_nil, List.length_replicate, List.length_take, List.length_drop, List.length_range, List.length_set]; omega))
local macro_rules | `(tactic| walk_at "sl") => `(tactic| first
  | assumption
  | decide +kernel
  | (refine sz_le ?_; (try simp only [PySem.Str.length_append, SX.S_len, List.length_append, List.length_cons, List.length_nil, lenlit]); omega))

def topS (i : Nat) : Stmt := PySem.Challenge.pw_cellspire_k05_poly_operators_and_parts.main.body.getD i (.Pass ⟨0, 0, 0, 0⟩)
namespace My
open PySem PySem.Spec PyProof.Rows L2
theorem take_snoc {α : Type} {ls : List α} {i : Nat} {l : α} (h : ls[i]? = some l) : ls.take (i + 1) = ls.take i ++ [l] := by rw [List.take_add_one, h]; rfl
theorem lt_of_get {α : Type} {ls : List α} {i : Nat} {l : α} (h : ls[i]? = some l) : i < ls.length := (List.getElem?_eq_some_iff.mp h).1
/-- the built-in names that are free -/
structure Txt (mg : Str → Option Value) : Prop where
  z_len : mg "len" = none
  z_tuple : mg "tuple" = none
  z_int : mg "int" = none
  z_bool : mg "bool" = none
  z_range : mg "range" = none
  z_isinstance : mg "isinstance" = none
  z_abs : mg "abs" = none
  z_min : mg "min" = none
  z_max : mg "max" = none
  z_enumerate : mg "enumerate" = none
  z_sorted : mg "sorted" = none
  z_zip : mg "zip" = none
  z_all : mg "all" = none
  z_list : mg "list" = none
section
variable {P : Program} {w : World} {K : PySem.W.Frag} {mg : Str → Option Value} {base : Heap}
abbrev s__changed : Stmt := topS 20
theorem sc__changed : FnScope ["c", "term", "place", "power", "powers"] ["c", "term", "place", "power"] (defScope s__changed) := ⟨rfl, rfl, rfl, by decide +kernel, rfl, by decide +kernel, by decide +kernel⟩
def sp__changed (K : PySem.W.Frag) : Sp := fun vs H Q _ => ∃ (c p : Int) (n : Nat) (a : Addr) (t : Tm), vs = [.int c, .ref a, .int n, .int p] ∧ n < 3 ∧ SqT K H a [.int t.c, .int t.i, .int t.j, .int t.k] ∧
  ∀ (b : Addr) (u : Tm) H', u = (if n = 0 then ⟨c, p, t.j, t.k⟩ else if n = 1 then ⟨c, t.i, p, t.k⟩ else ⟨c, t.i, t.j, p⟩) → Ch [] H H' → H' b = some (.tup [.int u.c, .int u.i, .int u.j, .int u.k]) → Q (.ref b) H'
theorem c__changed {f : Addr} {fd : FuncData} (F : DefF K mg "_changed" s__changed ["c", "term", "place", "power"] f fd) : Cal P w K mg base 1 "_changed" (sp__changed K) := by
  refine cal_of F sc__changed (fun vs H Q E h => by obtain ⟨_, _, _, _, _, rfl, _⟩ := h; rfl) (fun cdv A outer s H vs Q E hr h => ?_)
  obtain ⟨c, p, n, a, t, rfl, hn, ht, q⟩ := h
  refine ⟨_, (pss_cons (ps_set (i := 4) sc__changed.nd rfl (Or.inl rfl) (pe_lst (pa_cons (pe_ix (k_ixT (K := K) rfl) (pv 1) pe_int (fun _ _ => rfl)) (pa_cons (pe_ix (k_ixT (K := K) rfl) (pv 1) pe_int (fun _ _ => rfl)) (pa_cons (pe_ix (k_ixT (K := K) rfl) (pv 1) pe_int (fun _ _ => rfl)) pa_nil)))))
 (pss_cons (ps_asg (pv 3) (pg_sub (pv 4) (pv 2) set_list))
 (pss_one (ps_ret (pe_tup (pa_cons (pv 0) (pa_cons (pe_ix (k_ixL (K := K) rfl) (pv 4) pe_int (fun _ _ => rfl)) (pa_cons (pe_ix (k_ixL (K := K) rfl) (pv 4) pe_int (fun _ _ => rfl)) (pa_cons (pe_ix (k_ixL (K := K) rfl) (pv 4) pe_int (fun _ _ => rfl)) pa_nil))))))))), ?_⟩
  refine w_start (σ := [some _, some _, some _, some _, none]) rfl ?_
  obtain rfl | rfl | rfl : n = 0 ∨ n = 1 ∨ n = 2 := by omega
  all_goals
    walk_at "go"
    refine w_newL (show 3 ≤ sizeLine by decide) fun l H1 n1 c1 h1 => ?_
    walk_at "go"
    refine w_setL h1 rfl (show _ < 3 by decide) fun H2 c2 h2 => ?_
    have c12 : Ch [] H H2 := c1.cut n1 c2
    walk_at "go"
    refine w_newT (show 4 ≤ sizeLine by decide) fun b H3 n3 c3 h3 => ?_
    exact q b _ H3 rfl (c12.trans c3) h3
/-- an item of a list of terms: a term or none -/
inductive Itm (K : PySem.W.Frag) (H : Hp) : Bool → V → Prop where
  | four {a : Addr} (t : Tm) (h : SqT K H a [.int t.c, .int t.i, .int t.j, .int t.k]) : Itm K H (decide (0 ≤ t.i ∧ 0 ≤ t.j ∧ 0 ≤ t.k)) (.ref a)
  | noTup {v : V} {ty : String} (h : TyOf K H v (.type ty)) (n : PySem.W.kitOne K (.type ty) (.type "tuple") = some false) : Itm K H false v
  | len {a : Addr} {xs : List V} (h : SqT K H a xs) (n : xs.length ≠ 4) (n2 : xs.length ≤ 1000) : Itm K H false (.ref a)
  | part {a : Addr} {xs : List V} (h : SqT K H a xs) (n : xs.length = 4) (k : ∀ x ∈ xs, (∃ i, x = .int i) ∨ (∃ b, x = .bl b) ∨ ∃ ty, TyOf K H x (.type ty) ∧ PySem.W.kitOne K (.type ty) (.type "int") = some false) (b : ∃ x ∈ xs, ∀ i, x ≠ .int i) : Itm K H false (.ref a)
abbrev s__is_term : Stmt := topS 19
theorem sc__is_term : FnScope ["term", "n"] ["term"] (defScope s__is_term) := ⟨rfl, rfl, rfl, by decide +kernel, rfl, by decide +kernel, by decide +kernel⟩
def sp__is_term (K : PySem.W.Frag) : Sp := fun vs H Q _ => ∃ (v : V) (b : Bool), vs = [v] ∧ Itm K H b v ∧ Q (.bl b) H
theorem c__is_term (T : Txt mg) {f : Addr} {fd : FuncData} (F : DefF K mg "_is_term" s__is_term ["term"] f fd) : Cal P w K mg base 1 "_is_term" (sp__is_term K) := by
  refine cal_of F sc__is_term (fun vs H Q E h => by obtain ⟨_, _, rfl, _⟩ := h; rfl) (fun cdv A outer s H vs Q E hr h => ?_)
  obtain ⟨v, b, rfl, it, q⟩ := h
  refine ⟨_, (pss_cons (ps_if (PW.pt (pw_or (pt_not (pt_val (pe_callB (k_isi (K := K) rfl) (by rfl) T.z_isinstance (by decide +kernel) (pa_cons (pv 0) (pa_cons (pe_bltn (by rfl) T.z_tuple (by decide +kernel) (v := .ty "tuple") rfl) pa_nil))))) (pw_or1 (pt_cmpR op_ne (pe_callB (k_len (K := K) rfl) (by rfl) T.z_len PySem.boot_len (pa_cons (pv 0) pa_nil)) pe_int (nomark _))))) (pss_one (ps_ret pe_bl)) pss_nil)
 (pss_cons (ps_for PassesOwn.never rfl (k_piT (K := K) rfl (pv 0)) (pg_name (i := 1) sc__is_term.nd rfl (Or.inl rfl)) (pss_one (ps_if (PW.pt (pw_or (pt_not (pt_val (pe_callB (k_isi (K := K) rfl) (by rfl) T.z_isinstance (by decide +kernel) (pa_cons (pv 1) (pa_cons (pe_bltn (by rfl) T.z_int (by decide +kernel) (v := .ty "int") rfl) pa_nil))))) (pw_or1 (pt_val (pe_callB (k_isi (K := K) rfl) (by rfl) T.z_isinstance (by decide +kernel) (pa_cons (pv 1) (pa_cons (pe_bltn (by rfl) T.z_bool (by decide +kernel) (v := .ty "bool") rfl) pa_nil))))))) (pss_one (ps_ret pe_bl)) pss_nil)))
 (pss_one (ps_ret (pe_cmpR op_ge (pe_callB (cb_min3 rfl) (by rfl) T.z_min (by decide +kernel) (pa_cons (pe_ix (k_ixT (K := K) rfl) (pv 0) pe_int (fun _ _ => rfl)) (pa_cons (pe_ix (k_ixT (K := K) rfl) (pv 0) pe_int (fun _ _ => rfl)) (pa_cons (pe_ix (k_ixT (K := K) rfl) (pv 0) pe_int (fun _ _ => rfl)) pa_nil)))) pe_int (nomark _)))))), ?_⟩
  refine w_start (σ := [some _, none]) rfl ?_
  cases it with
  | @four a t ht =>
    walk_at "go"
    refine for_T (Pv := fun i σ H' => H' = H ∧ ∃ z, σ = [some (.ref a), z]) ⟨rfl, none, rfl⟩ (fun i σ H' _ h => by obtain ⟨rfl, _⟩ := h; exact ht) ?_ ?_
    · rintro i x σ H' hx ⟨rfl, z, rfl⟩
      have : ∃ j, x = .int j := by
        have := List.mem_of_getElem? hx
        simp only [List.mem_cons, List.not_mem_nil, or_false] at this
        rcases this with h | h | h | h <;> exact ⟨_, h⟩
      obtain ⟨j, rfl⟩ := this
      walk_at "go"
      exact ⟨rfl, _, rfl⟩
    · rintro σ H' ⟨rfl, z, rfl⟩
      walk_at "go"
      have e : decide (0 ≤ if t.k < (if t.j < t.i then t.j else t.i) then t.k else (if t.j < t.i then t.j else t.i)) = decide (0 ≤ t.i ∧ 0 ≤ t.j ∧ 0 ≤ t.k) := by
        rw [decide_eq_decide]
        split <;> split at * <;> omega
      rw [e]
      exact q
  | noTup ty n =>
    walk_at "go"
    refine w_isiNT ty n ?_
    walk_at "go"
    exact q
  | len ht n n2 =>
    walk_at "go"
    refine ite_nd (fun _ => ?_) (fun z => absurd (by omega) n)
    walk_at "go"
    exact q
  | @part a xs ht n k b =>
    walk_at "go"
    refine ite_nd (fun z => absurd (by omega) z) (fun _ => ?_)
    walk_at "go"
    refine for_T (Pv := fun i σ H' => H' = H ∧ (∀ j < i, ∃ n, xs[j]? = some (.int n)) ∧ ∃ z, σ = [some (.ref a), z]) ⟨rfl, fun j hj => absurd hj (Nat.not_lt_zero _), none, rfl⟩ (fun i σ H' _ h => by obtain ⟨rfl, _⟩ := h; exact ht) ?_ ?_
    · rintro i x σ H' hx ⟨rfl, hp, z, rfl⟩
      walk_at "go"
      rcases k x (List.mem_of_getElem? hx) with ⟨j, rfl⟩ | ⟨c, rfl⟩ | ⟨ty, h1, h2⟩
      · walk_at "go"
        refine ⟨rfl, fun m hm => ?_, _, rfl⟩
        rcases Nat.lt_or_ge m i with h | h
        · exact hp m h
        · have : m = i := by omega
          subst this
          exact ⟨j, hx⟩
      · refine w_isiBI ?_
        walk_at "go"
        refine w_isiBB ?_
        walk_at "go"
        exact q
      · refine w_isiNT h1 h2 ?_
        walk_at "go"
        exact q
    · rintro σ H' ⟨rfl, hp, z, rfl⟩
      exfalso
      obtain ⟨x, hx, hb⟩ := b
      obtain ⟨j, hj, e⟩ := List.getElem_of_mem hx
      obtain ⟨m, e2⟩ := hp j hj
      rw [List.getElem?_eq_getElem hj, e] at e2
      exact hb m (Option.some.inj e2)
end
end My
local macro_rules | `(tactic| walk_at "w1") => `(tactic| first
  | (with_reducible first
    | refine w_seq ?_
    | refine w_asg ?_
    | refine w_asgG ?_
    | refine w_ret ?_
    | refine w_drop ?_
    | refine w_if ?_
    | refine w_next ?_
    | refine w_break ?_
    | refine w_continue ?_
    | refine w_par ?_
    | refine w_two ?_
    | refine w_c ?_
    | refine w_op ?_
    | refine w_un ?_
    | refine w_I0 ?_
    | refine w_U ?_
    | refine w_eqI ?_
    | refine w_neI ?_
    | refine w_test ?_
    | refine w_B ?_
    | refine w_bl ?_
    | refine w_int ?_
    | refine w_N ?_
    | refine w_and ?_
    | refine w_or ?_
    | refine w_not ?_
    | refine w_andV ?_
    | refine w_orV ?_
    | refine w_notV ?_
    | refine w_ifE ?_
    | refine w_nil ?_
    | refine w_cons ?_
    | refine w_cb ?_
    | refine w_call ?_
    | refine w_tup ?_
    | refine w_lst ?_
    | refine w_abs ?_
    | refine w_max2 ?_
    | refine w_min2 ?_
    | refine w_int1 ?_
    | refine w_int1b ?_
    | refine w_gcd ?_
    | refine w_sl ?_
    | refine w_nopart ?_
    | refine w_part ?_
    | refine w_gname ?_
    | refine w_gsub ?_
    | refine w_gcons ?_
    | refine w_gnil ?_
    | refine w_bm ?_
    | refine w_for ?_
    | refine w_lc ?_
    | refine w_iL ?_
    | refine w_iT ?_
    | refine w_iR1 ?_
    | refine w_iR2 ?_
    | refine w_iE ?_
    | refine w_iV ?_
    | refine w_iR3 ?_
    | refine w_tru ?_
    | refine w_bits ?_
    | refine w_asg2 ?_
    | refine w_iS ?_
    | refine w_iSr ?_
    | refine w_tyS ?_
    | refine w_eqS ?_
    | refine w_neS ?_
    | refine w_notInS ?_
    | refine w_starts ?_
    | refine w_dget ?_
    | refine w_dget2 ?_
    | refine w_dput ?_
    | refine w_fld ?_
    | refine w_sfld ?_
    | refine w_iK ?_
    | refine w_callS ?_
    | refine w_mkS ?_
    | refine w_mmS ?_
    | refine w_mm ?_
    | refine w_smS ?_
    | refine w_refl ?_
    | refine w_cbk ?_
    | refine w_iZ ?_
    | refine w_min3 ?_
    | refine w_isiII ?_
    | refine w_isiIB ?_
    | refine w_yes ?_)
  | ((with_reducible refine' w_var ?e ?_); (case e => with_unfolding_all rfl))
  | (with_reducible refine w_mod (by decide) ?_)
  | (with_reducible refine w_div (by decide) (by decide) ?_)
  | (with_reducible refine w_pow (by decide) (by decide) (by decide) ?_)
  | (with_reducible refine w_mulr (by decide) ?_)
  | (with_reducible refine w_mull (by decide) ?_)
  | ((with_reducible refine' w_addS ?h ?_); (case h => walk_at "sl"))
  | ((with_reducible refine' w_slS ?h ?_); (case h => walk_at "sl"))
  | ((with_reducible refine' w_lenS ?h ?_); (case h => walk_at "sl"))
  | ((with_reducible refine' w_ixL ?h ?e ?_); (case h => exact SqL.of (by assumption)); (case e => with_unfolding_all rfl))
  | ((with_reducible refine' w_ixT ?h ?e ?_); (case h => walk_at "ht"); (case e => with_unfolding_all rfl))
  | ((with_reducible refine' ite_tt ?h ?_); (case h => first | decide | exact rfl))
  | ((with_reducible refine' ite_ff ?h ?_); (case h => first | decide | exact rfl))
  | ((with_reducible refine' w_isiTT ?h ?_); (case h => walk_at "ht"))
  | ((with_reducible refine' w_gtup ?h ?l ?_); (case h => walk_at "ht"); (case l => rfl))
  | ((with_reducible refine' w_iTr ?h ?_); (case h => walk_at "ht"))
  | ((with_reducible refine' w_iLr ?h ?_); (case h => first | exact SqL.of (by assumption) | assumption))
  | ((with_reducible refine' w_lenT ?h ?_); (case h => walk_at "ht"))
  | ((with_reducible refine' w_lenL ?h ?_); (case h => first | exact SqL.of (by assumption) | assumption)))
local macro_rules | `(tactic| walk_at "ht") => `(tactic| first
  | assumption
  | exact Ch.sqT (by assumption) (by assumption)
  | exact SqT.of (by assumption)
  | exact Ch.sqT (by assumption) (SqT.of (by assumption))
  | exact Ch.sqT (by assumption) (Ch.sqT (by assumption) (by assumption))
  | exact Ch.sqT (by assumption) (Ch.sqT (by assumption) (SqT.of (by assumption)))
  | exact Ch.sqT (by assumption) (Ch.sqT (by assumption) (Ch.sqT (by assumption) (by assumption))))
local macro_rules | `(tactic| walk_at "go") => `(tactic| repeat (walk_at "w1"))
local macro_rules | `(tactic| walk_at "hf") => `(tactic| first
  | assumption
  | (refine Ch.sqT (by assumption) ?_; walk_at "hf")
  | (refine SqL.of ?_; assumption)
  | (refine SqT.of ?_; walk_at "hf")
  | (refine Ch.at0 (by assumption) ?_; walk_at "hf")
  | (refine Ch.sq0 (by assumption) ?_; walk_at "hf")
  | (refine Ch.at1 (by assumption) (by first | assumption | exact Ne.symm (by assumption) | exact ne_of_none (by assumption) (by assumption) | exact Ne.symm (ne_of_none (by assumption) (by assumption))) ?_; walk_at "hf"))
local macro_rules | `(tactic| walk_at "sz") => `(tactic| first
  | assumption
  | (refine sz_le ?_; simp only [List.length_map, List.length_append, List.length_cons, List.length_nil, List.length_replicate, List.length_take, List.length_drop, List.length_range, List.length_set]; omega)
  | (refine sz_lt ?_; simp only [List.length_map, List.length_append, List.length_cons, List.length_nil, List.length_replicate, List.length_take, List.length_drop, List.length_range, List.length_set]; omega))
local macro_rules | `(tactic| walk_at "sl") => `(tactic| first
  | assumption
  | decide +kernel
  | (refine sz_le ?_; (try simp only [PySem.Str.length_append, SX.S_len, List.length_append, List.length_cons, List.length_nil, lenlit]); omega))

namespace My
open PySem PySem.Spec PyProof.Rows L2
section
variable {P : Program} {w : World} {K : PySem.W.Frag} {mg : Str → Option Value} {base : Heap}
theorem tme_get {K : PySem.W.Frag} {H : Hp} {l : Tm} {x : V} (h : Tme K l x H) : ∃ a, x = .ref a ∧ SqT K H a [.int l.c, .int l.i, .int l.j, .int l.k] := h
theorem sets_snoc (tb : Tb) (ts : List Tm) (t : Tm) : sets tb (ts ++ [t]) = putT (sets tb ts) t.e t.c := by
  unfold sets
  rw [List.foldl_append]
  rfl
theorem adds_snoc (f : Int) (tb : Tb) (ts : List Tm) (t : Tm) : adds f tb (ts ++ [t]) = putT (adds f tb ts) t.e (get0 (adds f tb ts) t.e + f * t.c) := by
  unfold adds
  rw [List.foldl_append]
  rfl
abbrev s__mixed : Stmt := topS 22
theorem sc__mixed : FnScope ["first", "second", "factor", "table", "c", "i", "j", "k"] ["first", "second", "factor"] (defScope s__mixed) := ⟨rfl, rfl, rfl, by decide +kernel, rfl, by decide +kernel, by decide +kernel⟩
def sp__mixed (K : PySem.W.Frag) : Sp := fun vs H Q _ => ∃ (a1 a2 : Addr) (f : Int) (xs1 xs2 : List V) (ts us : List Tm) (z : Bool), vs = [.ref a1, .ref a2, .int f] ∧ f.natAbs < 2 ^ 63 ∧ SqT K H a1 xs1 ∧ Tms K H xs1 ts ∧ SqS K z H a2 xs2 ∧ Tms K H xs2 us ∧ ts.length + us.length < 900000 ∧
  ∀ d H', H d = none → Ch [] H H' → H' d = some (.dT (dvT (adds f (sets [] ts) us))) → Q (.ref d) H'
theorem c__mixed {f : Addr} {fd : FuncData} (F : DefF K mg "_mixed" s__mixed ["first", "second", "factor"] f fd) : Cal P w K mg base 1 "_mixed" (sp__mixed K) := by
  refine cal_of F sc__mixed (fun vs H Q E h => by obtain ⟨_, _, _, _, _, _, _, _, rfl, _⟩ := h; rfl) (fun cdv A outer s H vs Q E hr h => ?_)
  obtain ⟨a1, a2, f, xs1, xs2, ts, us, z, rfl, hf, ht1, hm1, ht2, hm2, hl, q⟩ := h
  refine ⟨_, (pss_cons (ps_set (i := 3) sc__mixed.nd rfl (Or.inl rfl) pe_dnewT)
 (pss_cons (ps_for PassesOwn.never rfl (k_piT (K := K) rfl (pv 0)) (k_gtup (K := K) (n := 4) rfl rfl (pgs_cons (pg_name (i := 4) sc__mixed.nd rfl (Or.inl rfl)) (pgs_cons (pg_name (i := 5) sc__mixed.nd rfl (Or.inl rfl)) (pgs_cons (pg_name (i := 6) sc__mixed.nd rfl (Or.inl rfl)) (pgs_cons (pg_name (i := 7) sc__mixed.nd rfl (Or.inl rfl)) pgs_nil))))) (pss_one (ps_dput (hu_of hr) (pv 3) (pe_tup (pa_cons (pv 5) (pa_cons (pv 6) (pa_cons (pv 7) pa_nil)))) (pv 4) rfl)))
 (pss_cons (ps_for PassesOwn.never rfl (k_piS (K := K) rfl (pv 1)) (k_gtup (K := K) (n := 4) rfl rfl (pgs_cons (pg_name (i := 4) sc__mixed.nd rfl (Or.inl rfl)) (pgs_cons (pg_name (i := 5) sc__mixed.nd rfl (Or.inl rfl)) (pgs_cons (pg_name (i := 6) sc__mixed.nd rfl (Or.inl rfl)) (pgs_cons (pg_name (i := 7) sc__mixed.nd rfl (Or.inl rfl)) pgs_nil))))) (pss_one (ps_dput (hu_of hr) (pv 3) (pe_tup (pa_cons (pv 5) (pa_cons (pv 6) (pa_cons (pv 7) pa_nil)))) (pe_op op_add (pe_dget2 (hu_of hr) (pv 3) (pe_tup (pa_cons (pv 5) (pa_cons (pv 6) (pa_cons (pv 7) pa_nil)))) pe_int ⟨rfl, rfl, rfl, rfl⟩) (pe_op op_mulG (pv 2) (pv 4))) rfl)))
 (pss_one (ps_ret (pv 3)))))), ?_⟩
  refine w_start (σ := [some _, some _, some _, none, none, none, none, none]) rfl ?_
  walk_at "go"
  refine w_dnewT fun d H1 n1 c1 h1 => ?_
  walk_at "go"
  refine for_eT (E := Tme K) (ls := ts) (Pv := fun i σ H' => Ch [] H H' ∧ H' d = some (.dT (dvT (sets [] (ts.take i)))) ∧ ∃ z1 z2 z3 z4, σ = [some (.ref a1), some (.ref a2), some (.int f), some (.ref d), z1, z2, z3, z4]) hm1.len ⟨c1, h1, none, none, none, none, rfl⟩ (fun i σ H' _ h => ⟨h.1.sqT ht1, hm1.chm h.1⟩) ?_ ?_
  · rintro i t x σ H' ht ⟨c, hd, z1, z2, z3, z4, rfl⟩ hx
    obtain ⟨b, rfl, hb⟩ := hx
    walk_at "go"
    refine w_newT (show 3 ≤ sizeLine by decide) fun p H2 n2 c2 h2 => ?_
    have := sets_len [] (ts.take i)
    rw [List.length_take] at this
    refine rput (e := t.e) (sets_ok .nil _) (c2.at0 hd) h2 (by have := lt_of_get ht; simp only [List.length_nil] at *; omega) ?_
    refine ⟨(c.trans c2).put n1, ?_, _, _, _, _, rfl⟩
    rw [take_snoc ht, sets_snoc]
    exact upd_same
  · rintro σ H' ⟨c, hd, z1, z2, z3, z4, rfl⟩
    rw [List.take_length] at hd
    walk_at "go"
    refine w_forS (E := Tme K) (ls := us) (xs := xs2) (ht2.ch0 c) rfl (Pv := fun i σ H'' => Ch [] H H'' ∧ H'' d = some (.dT (dvT (adds f (sets [] ts) (us.take i)))) ∧ ∃ z1 z2 z3 z4, σ = [some (.ref a1), some (.ref a2), some (.int f), some (.ref d), z1, z2, z3, z4]) hm2.len ⟨c, hd, _, _, _, _, rfl⟩ (fun i σ' H'' h => ⟨ht2.ch0 h.1, hm2.chm h.1⟩) ?_ ?_
    · rintro i t x σ H'' ht ⟨c', hd', z1, z2, z3, z4, rfl⟩ hx
      obtain ⟨b, rfl, hb⟩ := hx
      walk_at "go"
      refine risd (.of hd') ?_
      walk_at "go"
      refine w_newT (show 3 ≤ sizeLine by decide) fun p H2 n2 c2 h2 => ?_
      walk_at "go"
      refine rget2 (e := t.e) (.of (c2.at0 hd')) h2 ?_
      walk_at "go"
      refine w_I (mul_ok_l hf) ?_
      walk_at "go"
      refine w_newT (show 3 ≤ sizeLine by decide) fun p3 H3 n3 c3 h3 => ?_
      have l1 := adds_len f (sets [] ts) (us.take i)
      have l2 := sets_len [] ts
      rw [List.length_take] at l1
      refine rput (e := t.e) (adds_ok f (sets_ok .nil _) _) ((c2.trans c3).at0 hd') h3 (by have := lt_of_get ht; simp only [List.length_nil] at *; omega) ?_
      refine ⟨(c'.trans (c2.trans c3)).put n1, ?_, _, _, _, _, rfl⟩
      rw [take_snoc ht, adds_snoc]
      exact upd_same
    · rintro σ' H'' ⟨c', hd', z1, z2, z3, z4, rfl⟩
      rw [List.take_length] at hd'
      walk_at "go"
      exact q d H'' n1 c' hd'
theorem getT_of {tb : Tb} {e : Ex} (h : get0 tb e ≠ 0) : getT tb e = some (get0 tb e) := by
  unfold get0 at h ⊢
  cases q : getT tb e with
  | none => rw [q] at h; exact absurd rfl h
  | some c => rfl
abbrev s__in_order : Stmt := topS 25
theorem sc__in_order : FnScope ["table", "keys", "i", "j", "k", "_"] ["table"] (defScope s__in_order) := ⟨rfl, rfl, rfl, by decide +kernel, rfl, by decide +kernel, by decide +kernel⟩
def sp__in_order (K : PySem.W.Frag) : Sp := fun vs H Q _ => ∃ (d : Addr) (tb : Tb), vs = [.ref d] ∧ H d = some (.dT (dvT tb)) ∧ TbOk tb ∧ tb.length < 900000 ∧
  ∀ t H' ts, Nf ts → (∀ e, cf ts e = get0 tb e) → Ch [] H H' → TmT K H' t ts → Q (.ref t) H'
theorem c__in_order (T : Txt mg) {f : Addr} {fd : FuncData} (F : DefF K mg "_in_order" s__in_order ["table"] f fd) : Cal P w K mg base 1 "_in_order" (sp__in_order K) := by
  refine cal_of F sc__in_order (fun vs H Q E h => by obtain ⟨_, _, rfl, _⟩ := h; rfl) (fun cdv A outer s H vs Q E hr h => ?_)
  obtain ⟨d, tb, rfl, hd, ok, hl, q⟩ := h
  refine ⟨_, (pss_cons (ps_set (i := 1) sc__in_order.nd rfl (Or.inl rfl) (pe_callBK (k_sort (K := K) rfl) (by rfl) T.z_sorted (by decide +kernel) (pa_cons (pe_lock (pe_lc (own := [("i", 2), ("j", 3), ("k", 4)]) (g := gTup K 3 (gCons (gName 2) (gCons (gName 3) (gCons (gName 4) gNil)))) rfl sc__in_order.nd (pi_keys (pv 0)) (blkOk_by (own := [("i", 2), ("j", 3), ("k", 4)]) (N := ["table", "keys", "i", "j", "k", "_"]) (sc := defScope s__in_order) (by decide +kernel)) (fun _ _ _ _ _ => k_gtup (K := K) rfl rfl (pgs_cons (pg_name (i := 2) sc__in_order.nd rfl (Or.inl rfl)) (pgs_cons (pg_name (i := 3) sc__in_order.nd rfl (Or.inl rfl)) (pgs_cons (pg_name (i := 4) sc__in_order.nd rfl (Or.inl rfl)) pgs_nil)))) (fun _ _ _ _ _ => (pts_one (pt_cmpR op_ne (pe_dget (hu_of hr) (pv 0) (pe_tup (pa_cons (pv 2) (pa_cons (pv 3) (pa_cons (pv 4) pa_nil)))) (fun _ _ => rfl)) pe_int (nomark _)))) (fun _ _ _ _ _ => (pe_tup (pa_cons (pe_op op_add (pe_op op_add (pv 2) (pv 3)) (pv 4)) (pa_cons (pv 2) (pa_cons (pv 3) (pa_cons (pv 4) pa_nil)))))))) pa_nil) (pk_cons pe_bl pk_nil)))
 (pss_one (ps_ret (pe_callTy (k_tuple (K := K) rfl) (by rfl) T.z_tuple (by decide +kernel) (pa_cons (pe_lc (own := [("_", 5), ("i", 2), ("j", 3), ("k", 4)]) (g := gTup K 4 (gCons (gName 5) (gCons (gName 2) (gCons (gName 3) (gCons (gName 4) gNil))))) rfl sc__in_order.nd (k_piL (K := K) rfl (pv 1)) (blkOk_by (own := [("_", 5), ("i", 2), ("j", 3), ("k", 4)]) (N := ["table", "keys", "i", "j", "k", "_"]) (sc := defScope s__in_order) (by decide +kernel)) (fun _ _ _ _ _ => k_gtup (K := K) rfl rfl (pgs_cons (pg_name (i := 5) sc__in_order.nd rfl (Or.inl rfl)) (pgs_cons (pg_name (i := 2) sc__in_order.nd rfl (Or.inl rfl)) (pgs_cons (pg_name (i := 3) sc__in_order.nd rfl (Or.inl rfl)) (pgs_cons (pg_name (i := 4) sc__in_order.nd rfl (Or.inl rfl)) pgs_nil))))) (fun _ _ _ _ _ => pts_nil) (fun _ _ _ _ _ => (pe_tup (pa_cons (pe_dget (hu_of hr) (pv 0) (pe_tup (pa_cons (pv 2) (pa_cons (pv 3) (pa_cons (pv 4) pa_nil)))) (fun _ _ => rfl)) (pa_cons (pv 2) (pa_cons (pv 3) (pa_cons (pv 4) pa_nil))))))) pa_nil))))), ?_⟩
  refine w_start (σ := [some _, none, none, none, none, none]) rfl ?_
  walk_at "go"
  refine w_lockT hd fun od H1 e1 => ?_
  have hf : H1 d = some (.frz od (.dT (dvT tb))) := by rw [e1]; exact upd_same
  walk_at "go"
  refine w_iKr hf ?_
  refine lc_e tb (walk_keysT (kvs := dvT tb)) (dvT_len tb).symm (fun p => decide (p.2 ≠ 0)) (fun p v H => TuN (exr p.1) v H) (fun _ _ _ _ _ c h => h.ch c) (fun H' c => c.frz hf) (by rw [dvT_len]; omega) ?_ ?_
  · rintro k p x H2 H3 hp c2 ⟨rfl, kk, v, b, g1, rfl, hb⟩ Nx A1 hN hA
    have e2 : kk = (exl p.1).map Sum.inl ∧ v = .int p.2 := by
      have : (dvT tb)[k]? = some ((exl p.1).map Sum.inl, V.int p.2) := by
        unfold dvT
        rw [List.getElem?_map, hp]
        rfl
      rw [this] at g1
      cases g1
      exact ⟨rfl, rfl⟩
    obtain ⟨rfl, rfl⟩ := e2
    have hb : H3 b = some (.tup [.int p.1.1, .int p.1.2.1, .int p.1.2.2]) := hb
    walk_at "go"
    refine ⟨rfl, ?_⟩
    walk_at "go"
    refine w_newT (show 3 ≤ sizeLine by decide) fun b2 H4 n4 c4 h4 => ?_
    refine rget (e := p.1) (.inr ⟨od, c4.frz (c2.frz hf)⟩) h4 (ok.get (List.mem_of_getElem? hp)) ?_
    walk_at "go"
    refine ite_nd (fun h0 => ?_) (fun h0 => ?_)
    · walk_at "go"
      refine w_newT (show 4 ≤ sizeLine by decide) fun b3 H5 n5 c5 h5 => ?_
      exact hA _ H5 (c4.trans c5) (by simpa using h0) ⟨b3, rfl, h5⟩
    · exact hN H4 c4 (by simpa using h0)
  · intro D H2 out nD c2 hD el
    rw [e1] at c2 nD
    have hf2 : H2 d = some (.frz od (.dT (dvT tb))) := c2.frz upd_same
    have nd : D ≠ d := fun z => by rw [z, upd_same] at nD; cases nD
    refine ⟨hf2, ?_⟩
    have c3 : Ch [] H (L2.upd H2 d (.dT (dvT tb))) := Ch.unlock hd c2
    have hd3 : L2.upd H2 d (.dT (dvT tb)) d = some (.dT (dvT tb)) := upd_same
    have hD3 : L2.upd H2 d (.dT (dvT tb)) D = some (.lst out) := by rw [upd_ne nd]; exact hD
    have el3 : Els (fun p v H => TuN (exr p.1) v H) (L2.upd H2 d (.dT (dvT tb))) out (tb.filter fun p => decide (p.2 ≠ 0)) := el.imp fun l v _ h => by
      obtain ⟨a, e, h⟩ := h
      refine ⟨a, e, ?_⟩
      rw [upd_ne (fun z => by rw [z, hf2] at h; cases h)]
      exact h
    generalize L2.upd H2 d (.dT (dvT tb)) = H3 at c3 hd3 hD3 el3
    walk_at "go"
    refine ⟨D, out, kOf H3, rfl, rfl, .of hD3, fun x hx => ?_, fun ys l hp hs nl => ?_⟩
    · obtain ⟨p, _, a, rfl, h⟩ := els_mem el3 hx
      refine ⟨a, rfl, ?_⟩
      rw [kOf_of ⟨a, rfl, h⟩]
      exact ⟨.of h, fun z => nomatch z⟩
    obtain ⟨es, pe, se, ee⟩ := sort_rows el3 hp hs
    obtain ⟨nf, cfe⟩ := in_order ok pe se
    have c4 : Ch [] H3 (L2.upd H3 l (.lst ys)) := Ch.new nl
    have hl4 : L2.upd H3 l (.lst ys) l = some (.lst ys) := upd_same
    have ee4 : Els (fun e v H => TuN (exr e) v H) (L2.upd H3 l (.lst ys)) ys es := ee.imp fun _ _ _ h => h.ch c4
    have hd4 := c4.at0 hd3
    generalize L2.upd H3 l (.lst ys) = H4 at c4 hl4 ee4 hd4
    walk_at "go"
    have les : es.length < 900000 := by
      rw [pe.length_eq]
      exact Nat.lt_of_le_of_lt (kept_len tb) hl
    refine lc_e es (walk_list (K := K) (a := l) (xs := ys)) ee4.len.symm (fun _ => true) (fun e v H => Tme K ⟨get0 tb e, e.1, e.2.1, e.2.2⟩ v H) (fun _ _ _ _ _ c h => h.ch c) (fun H' c => .of (c.at0 hl4)) (by rw [ee4.len]; omega) ?_ ?_
    · rintro k e x H5 H6 he c5 ⟨rfl, hx⟩ Nx A1 hN hA
      obtain ⟨a, rfl, ha⟩ : TuN (exr e) x H6 := by
        obtain ⟨v, e1, e2⟩ := ee4.at_ k e he
        rw [hx] at e1
        cases e1
        exact e2.ch c5
      have ha : H6 a = some (.tup [.int (e.1 + e.2.1 + e.2.2), .int e.1, .int e.2.1, .int e.2.2]) := ha
      walk_at "go"
      refine ⟨rfl, ?_⟩
      walk_at "go"
      refine w_newT (show 3 ≤ sizeLine by decide) fun b2 H7 n7 c7 h7 => ?_
      refine rget (e := e) (.of (c7.at0 (c5.at0 hd4))) h7 (getT_of ((mem_kept ok).mp (pe.mem_iff.mp (List.mem_of_getElem? he)))) ?_
      walk_at "go"
      refine w_newT (show 4 ≤ sizeLine by decide) fun b3 H8 n8 c8 h8 => ?_
      exact hA _ H8 (c7.trans c8) rfl ⟨b3, rfl, .of h8⟩
    · intro D2 H5 out2 nD2 c5 hD2 el2
      rw [filter_yes] at el2
      walk_at "go"
      refine w_tupleL (.of hD2) fun t H6 n6 c6 h6 => ?_
      refine q t H6 _ nf cfe (c3.trans (c4.trans (c5.trans c6))) ⟨out2, .of h6, ?_⟩
      exact (el2.map (F := Tme K) (f := fun e => ⟨get0 tb e, e.1, e.2.1, e.2.2⟩) fun _ _ _ h => h).chm c6
end
end My
namespace My
open PySem PySem.Spec PyProof.Rows L2
/-- a polynomial at p: its terms -/
def Po (K : PySem.W.Frag) (C : Addr) (H : Hp) (p : Addr) (ts : List Tm) : Prop := ∃ dx t, H p = some (.ins C dx [("terms", .ref t)]) ∧ TmT K H t ts
theorem Ch.ins {L : List Addr} {H H' : Hp} {a C dx : Addr} {fs : List (Str × V)} (c : Ch L H H') (h : H a = some (.ins C dx fs)) : H' a = some (.ins C dx fs) := by
  rcases c a _ h with e | ⟨_, _, _, q, _⟩
  · exact e
  · cases q
theorem Po.ch {K : PySem.W.Frag} {C : Addr} {L : List Addr} {H H' : Hp} {p : Addr} {ts : List Tm} (h : Po K C H p ts) (c : Ch L H H') : Po K C H' p ts := let ⟨dx, t, e, q⟩ := h; ⟨dx, t, c.ins e, q.ch c⟩
section
variable {P : Program} {w : World} {K : PySem.W.Frag} {mg : Str → Option Value} {base : Heap}
abbrev s__collected : Stmt := topS 21
theorem sc__collected : FnScope ["terms"] ["terms"] (defScope s__collected) := ⟨rfl, rfl, rfl, by decide +kernel, rfl, by decide +kernel, by decide +kernel⟩
def sp__collected (K : PySem.W.Frag) : Sp := fun vs H Q _ => ∃ (a : Addr) (xs : List V) (ts : List Tm) (z : Bool), vs = [.ref a] ∧ SqS K z H a xs ∧ Tms K H xs ts ∧ ts.length < 800000 ∧
  ∀ t H' us, Nf us → (∀ e, cf us e = cf ts e) → Ch [] H H' → TmT K H' t us → Q (.ref t) H'
theorem c__collected (C__mixed : Cal P w K mg base 1 "_mixed" (sp__mixed K)) (C__in_order : Cal P w K mg base 1 "_in_order" (sp__in_order K)) {f : Addr} {fd : FuncData} (F : DefF K mg "_collected" s__collected ["terms"] f fd) : Cal P w K mg base 2 "_collected" (sp__collected K) := by
  refine cal_of F sc__collected (fun vs H Q E h => by obtain ⟨_, _, _, _, rfl, _⟩ := h; rfl) (fun cdv A outer s H vs Q E hr h => ?_)
  obtain ⟨a, xs, ts, z, rfl, hs, hm, hl, q⟩ := h
  refine ⟨_, (pss_one (ps_ret (pe_cc C__in_order hr (by decide) (by rfl) (pa_cons (pe_cc C__mixed hr (by decide) (by rfl) (pa_cons (pe_tup pa_nil) (pa_cons (pv 0) (pa_cons pe_int pa_nil)))) pa_nil)))), ?_⟩
  refine w_start (σ := [some _]) rfl ?_
  walk_at "go"
  refine w_newT (show 0 ≤ sizeLine by decide) fun e0 H1 n1 c1 h1 => ?_
  walk_at "go"
  refine ⟨e0, a, 1, [], xs, [], ts, z, rfl, by decide, .of h1, Els.nil, hs.ch0 c1, hm.chm c1, by simp only [List.length_nil]; omega, fun d H2 n2 c2 h2 => ?_⟩
  walk_at "go"
  have l := adds_len 1 (sets [] []) ts
  refine ⟨d, _, rfl, h2, adds_ok 1 (sets_ok .nil _) _, by simp only [sets, List.foldl_nil, List.length_nil] at l ⊢; omega, fun t H3 us nf ce c3 ht => ?_⟩
  refine q t H3 us nf (fun e => ?_) (c1.trans (c2.trans c3)) ht
  rw [ce, adds_get, show sets [] [] = [] from rfl, get0_nil, Int.zero_add, Int.one_mul]
abbrev s_P_init : Stmt := inClass (topS 17) 0
theorem sc_P_init : FnScope ["self", "terms", "term"] ["self", "terms"] (defScope s_P_init) := ⟨rfl, rfl, rfl, by decide +kernel, rfl, by decide +kernel, by decide +kernel⟩
/-- exponents that are not negative -/
def ExpOk (ts : List Tm) : Prop := ∀ t ∈ ts, 0 ≤ t.i ∧ 0 ≤ t.j ∧ 0 ≤ t.k
def sp_P_init (K : PySem.W.Frag) (C A : Addr) : Sp := fun vs H Q E => ∃ (x dx a : Addr) (xs : List V) (z : Bool), vs = [.ref x, .ref a] ∧ H x = some (.ins C dx []) ∧ SqS K z H a xs ∧ xs.length < 800000 ∧
  ((∃ ts, Tms K H xs ts ∧ ExpOk ts ∧ ∀ H' t us, Nf us → (∀ e, cf us e = cf ts e) → (∀ b o, b ≠ x → H b = some o → H' b = some o) → H' x = some (.ins C dx [("terms", .ref t)]) → TmT K H' t us → Q .non H') ∨
   ∃ bs, Els (fun b v H => Itm K H b v) H xs bs ∧ false ∈ bs ∧ E (.ref A) none H)
theorem itms {K : PySem.W.Frag} {H : Hp} {xs : List V} {ts : List Tm} (h : Tms K H xs ts) (ex : ExpOk ts) : Els (fun b v H => Itm K H b v) H xs (ts.map fun _ => true) := h.map fun t v m q => by
  obtain ⟨a, rfl, e⟩ := q
  have z := Itm.four t e
  rw [decide_eq_true (ex t m)] at z
  exact z
theorem c_P_init {A_Poly A_InvalidPoly A_e : Addr} (T_P : PolyK K mg A_Poly) (X_InvalidPoly : ExcF K mg "InvalidPoly" A_InvalidPoly) (C__is_term : Cal P w K mg base 1 "_is_term" (sp__is_term K)) (C__collected : Cal P w K mg base 2 "_collected" (sp__collected K))
    {f : Addr} {fd : FuncData} (F : DefI K mg "Poly" A_Poly "Poly.__init__" s_P_init ["self", "terms"] [.ref A_e] f fd) : CalI P w K mg base 3 "Poly" A_Poly [.ref A_e] (sp_P_init K A_Poly A_InvalidPoly) := by
  refine calI_of F sc_P_init (fun vs H Q E h => by obtain ⟨_, _, _, _, _, rfl, _⟩ := h; rfl) (fun cdv A outer s H vs Q E hr h => ?_)
  obtain ⟨x, dx, a, xs, z, rfl, hx, hs, hl, q⟩ := h
  refine ⟨_, (pss_cons (ps_for (passes_of rfl) rfl (k_piS (K := K) rfl (pv 1)) (pg_name (i := 2) sc_P_init.nd rfl (Or.inl rfl)) (pss_one (ps_if (pt_not (pt_val (pe_cc C__is_term hr (by decide) (by rfl) (pa_cons (pv 2) pa_nil)))) (pss_one (L2N.ps_raise rfl (L2N.takes_of rfl rfl rfl rfl) (pmk_own0N PySem.F.excBase_ValueError X_InvalidPoly.xin X_InvalidPoly.gl X_InvalidPoly.kp (raises_own X_InvalidPoly.sub X_InvalidPoly.ty) (by rfl)))) pss_nil)))
 (pss_one (k_sfld (K := K) rfl (pv 0) (pe_cc C__collected hr (by decide) (by rfl) (pa_cons (pv 1) pa_nil)) rfl))), ?_⟩
  refine w_start (σ := [some _, some _, none]) rfl ?_
  walk_at "go"
  obtain ⟨bs, hb, q⟩ : ∃ bs, Els (fun b v H => Itm K H b v) H xs bs ∧ ((false ∈ bs ∧ E (.ref A_InvalidPoly) none H) ∨ (false ∉ bs ∧ ∃ ts, Tms K H xs ts ∧ ∀ H' t us, Nf us → (∀ e, cf us e = cf ts e) → (∀ b o, b ≠ x → H b = some o → H' b = some o) → H' x = some (.ins A_Poly dx [("terms", .ref t)]) → TmT K H' t us → Q .non H')) := by
    rcases q with ⟨ts, h1, h2, h3⟩ | ⟨bs, h1, h2, h3⟩
    · refine ⟨_, itms h1 h2, .inr ⟨fun m => ?_, ts, h1, h3⟩⟩
      obtain ⟨_, _, z⟩ := List.mem_map.mp m
      cases z
    · exact ⟨bs, h1, .inl ⟨h2, h3⟩⟩
  refine w_forS (E := fun b v H => Itm K H b v) (ls := bs) hs rfl (Pv := fun i σ H' => H' = H ∧ false ∉ bs.take i ∧ ∃ z1, σ = [some (.ref x), some (.ref a), z1]) hb.len ⟨rfl, fun m => (nomatch m), none, rfl⟩ (fun i σ' H' h => by obtain ⟨rfl, _⟩ := h; exact ⟨hs, hb⟩) ?_ ?_
  · rintro i b v σ H' hi ⟨rfl, hf, z1, rfl⟩ it
    walk_at "go"
    refine ⟨v, b, rfl, it, ?_⟩
    walk_at "go"
    cases b with
    | false =>
      walk_at "go"
      rcases q with ⟨_, q⟩ | ⟨q, _⟩
      · exact q
      · exact absurd (List.mem_of_getElem? hi) q
    | true =>
      walk_at "go"
      refine ⟨rfl, ?_, _, rfl⟩
      rw [take_snoc hi, List.mem_append, not_or]
      exact ⟨hf, by simp⟩
  · rintro σ H' ⟨rfl, hf, z1, rfl⟩
    rw [List.take_length] at hf
    rcases q with ⟨q, _⟩ | ⟨_, ts, hm, q⟩
    · exact absurd q hf
    walk_at "go"
    refine ⟨a, xs, ts, z, rfl, hs, hm, by rw [← hm.len]; exact hl, fun t H2 us nf ce c2 ht => ?_⟩
    walk_at "go"
    refine rset0 T_P (c2.ins hx) ?_
    have hx2 := c2.ins hx
    refine q _ t us nf ce (fun b o ne e => by rw [upd_ne ne]; exact c2.at0 e) upd_same ?_
    obtain ⟨xs2, e1, e2⟩ := ht
    exact ⟨xs2, sqT_upd e1 hx2 trivial, e2.updm hx2 trivial⟩
end
end My
namespace My
open PySem PySem.Spec PyProof.Rows L2
/-- the numbers n, d of a fraction at a -/
abbrev Fr (K : PySem.W.Frag) (H : Hp) (a : Addr) (n d : Int) : Prop := SqT K H a (ivs [n, d])
/-! ### lowest terms, in plain numbers -/
structure Low (t b n d : Int) : Prop where
  pos : 0 < d
  cop : Nat.gcd n.natAbs d.natAbs = 1
  eq : n * b = d * t
  ln : n.natAbs ≤ t.natAbs
  ld : d.natAbs ≤ b.natAbs
theorem low_of {t b s : Int} {g : Nat} (hs : s = 1 ∨ s = -1) (hb : 0 < s * b) (hg : g = Nat.gcd t.natAbs b.natAbs) : Low t b ((s * t).fdiv g) ((s * b).fdiv g) := by
  have b0 : b ≠ 0 := fun e => by rw [e, Int.mul_zero] at hb; omega
  have g0 : 0 < g := by
    rw [hg]
    exact Nat.gcd_pos_of_pos_right _ (by omega)
  have dt : (g : Int) ∣ t := Int.ofNat_dvd_left.mpr (by rw [hg]; exact Nat.gcd_dvd_left _ _)
  have db : (g : Int) ∣ b := Int.ofNat_dvd_left.mpr (by rw [hg]; exact Nat.gcd_dvd_right _ _)
  obtain ⟨t', et⟩ := dt
  obtain ⟨b', eb⟩ := db
  have gne : (g : Int) ≠ 0 := by omega
  have e1 : (s * t).fdiv g = s * t' := by
    rw [et, Int.mul_left_comm]
    exact Int.mul_fdiv_cancel_left _ gne
  have e2 : (s * b).fdiv g = s * b' := by
    rw [eb, Int.mul_left_comm]
    exact Int.mul_fdiv_cancel_left _ gne
  rw [e1, e2]
  have at' : t.natAbs = g * t'.natAbs := by rw [et, Int.natAbs_mul, Int.natAbs_natCast]
  have ab' : b.natAbs = g * b'.natAbs := by rw [eb, Int.natAbs_mul, Int.natAbs_natCast]
  have sa : ∀ x : Int, (s * x).natAbs = x.natAbs := fun x => by
    rcases hs with e | e <;> rw [e] <;> omega
  refine ⟨?_, ?_, ?_, ?_, ?_⟩
  · rw [eb, Int.mul_left_comm] at hb
    by_cases c : 0 < s * b'
    · exact c
    · exfalso
      have := Int.mul_le_mul_of_nonneg_left (show s * b' ≤ 0 by omega) (show (0 : Int) ≤ g by omega)
      rw [Int.mul_zero] at this
      omega
  · rw [sa, sa]
    rw [at', ab', Nat.gcd_mul_left] at hg
    exact Nat.eq_of_mul_eq_mul_left g0 (by omega)
  · rw [et, eb]
    simp only [Int.mul_assoc, Int.mul_left_comm, Int.mul_comm]
  · rw [sa, at']
    exact Nat.le_mul_of_pos_left _ g0
  · rw [sa, ab']
    exact Nat.le_mul_of_pos_left _ g0
/-- a def with defaults, called with them or without -/
structure DefE (K : PySem.W.Frag) (mg : Str → Option Value) (x : Str) (st : Stmt) (ps : List Str) (dvs : List V) (f : Addr) (fd : FuncData) : Prop where
  fn : FunD K x x (defArgs st) (defBody st) (defScope st) dvs [] f fd
  mgf : mg x = some (.ref f)
  bi : Binds K fd ps []
  bd : ∃ ds, Vals dvs ds ∧ Binds K fd ps ds
section
variable {P : Program} {w : World} {K : PySem.W.Frag} {mg : Str → Option Value} {base : Heap}
theorem cal_ofE {x : Str} {st : Stmt} {f : Addr} {fd : FuncData} {N ps : List Str} {dvs : List V} {k : Nat} {sp : Sp} (F : DefE K mg x st ps dvs f fd) (S : FnScope N ps (defScope st)) (len : ∀ vs H Q E, sp vs H Q E → vs.length = ps.length)
    (hbody : ∀ (cdv : Value) (A : Around) (outer : List Env) (s : Shared) (H : Hp) (vs : List V) (Q : VK) (E : XK), Room k (A.deeper (envOfC x (defScope st) s.heap.objs.size f cdv)) → sp vs H Q E →
      ∃ t, PSs (cxOf (L2N.CX P w) P w K mg base N x (defScope st) f cdv A outer s H E) (defBody st) t ∧ t { nx := fun _ H' => Q .non H', rt := Q } (start N vs) H) : CalN P w K mg base (k + 1) x sp ∧ CalD P w K mg base (k + 1) x dvs sp := by
  have ok := F.fn.ok (CX := L2N.CX P w) (P := P) (w := w) (mg := mg) (base := base) S len hbody
  obtain ⟨ds, v, b⟩ := F.bd
  exact ⟨⟨f, fd, ps, ok, F.mgf, F.fn.kp, F.bi⟩, ⟨f, fd, ps, ds, ok, F.mgf, F.fn.kp, b, v⟩⟩
theorem exact_neg {g n' : Int} (h : g ≠ 0) : (g * n').fdiv (-g) = -n' := by
  rw [show g * n' = -g * -n' by rw [Int.neg_mul, Int.mul_neg, Int.neg_neg]]
  exact Int.mul_fdiv_cancel_left _ (by omega)
theorem exact_pos {g n' : Int} (h : g ≠ 0) : (g * n').fdiv g = n' := Int.mul_fdiv_cancel_left _ h
theorem low_frac {n d : Int} (hd : d ≠ 0) : Low n d (n.fdiv (if d < 0 then -((Nat.gcd n.natAbs d.natAbs : Nat) : Int) else ((Nat.gcd n.natAbs d.natAbs : Nat) : Int))) (d.fdiv (if d < 0 then -((Nat.gcd n.natAbs d.natAbs : Nat) : Int) else ((Nat.gcd n.natAbs d.natAbs : Nat) : Int))) := by
  generalize hg : Nat.gcd n.natAbs d.natAbs = g
  have g0 : 0 < g := by
    rw [← hg]
    exact Nat.gcd_pos_of_pos_right _ (by omega)
  obtain ⟨n', en⟩ := Int.ofNat_dvd_left.mpr (by rw [← hg]; exact Nat.gcd_dvd_left n.natAbs d.natAbs : g ∣ n.natAbs)
  obtain ⟨d', ed⟩ := Int.ofNat_dvd_left.mpr (by rw [← hg]; exact Nat.gcd_dvd_right n.natAbs d.natAbs : g ∣ d.natAbs)
  have gi : (g : Int) ≠ 0 := by omega
  by_cases c : d < 0
  · have l := low_of (t := n) (b := d) (s := -1) (g := g) (.inr rfl) (by omega) hg.symm
    rw [if_pos c]
    rw [en, ed, exact_neg gi, exact_neg gi]
    rw [Int.neg_one_mul, Int.neg_one_mul, en, ed, ← Int.mul_neg, ← Int.mul_neg, exact_pos gi, exact_pos gi] at l
    exact l
  · have l := low_of (t := n) (b := d) (s := 1) (g := g) (.inl rfl) (by omega) hg.symm
    rw [if_neg c]
    rw [Int.one_mul, Int.one_mul] at l
    exact l
abbrev s_fraction : Stmt := topS 11
theorem sc_fraction : FnScope ["n", "d", "common"] ["n", "d"] (defScope s_fraction) := ⟨rfl, rfl, rfl, by decide +kernel, rfl, by decide +kernel, by decide +kernel⟩
def sp_fraction (K : PySem.W.Frag) (C : Addr) : Sp := fun vs H Q E => ∃ (n d : Int), vs = [.int n, .int d] ∧ d.natAbs < 2 ^ 8000 ∧ (d = 0 → E (.ref C) none H) ∧ (d ≠ 0 → ∀ (t : Addr) (x y : Int) H', Low n d x y → Ch [] H H' → Fr K H' t x y → Q (.ref t) H')
theorem c_fraction (m_gcd : mg "gcd" = some (.builtin "math.gcd")) {A_DivisionByZero : Addr} (X_DivisionByZero : ExcF K mg "DivisionByZero" A_DivisionByZero) {f : Addr} {fd : FuncData} (F : DefE K mg "fraction" s_fraction ["n", "d"] [.int 1] f fd) :
    CalN P w K mg base 1 "fraction" (sp_fraction K A_DivisionByZero) ∧ CalD P w K mg base 1 "fraction" [.int 1] (sp_fraction K A_DivisionByZero) := by
  refine cal_ofE F sc_fraction (fun vs H Q E h => by obtain ⟨_, _, rfl, _⟩ := h; rfl) (fun cdv A outer s H vs Q E hr h => ?_)
  obtain ⟨n, d, rfl, bd, qE, q⟩ := h
  refine ⟨_, (pss_cons (ps_if (pt_cmpR op_eq (pv 1) pe_int (nomark _)) (pss_one (L2N.ps_raise rfl (L2N.takes_of rfl rfl rfl rfl) (pmk_own0N PySem.F.excBase_ValueError X_DivisionByZero.xin X_DivisionByZero.gl X_DivisionByZero.kp (raises_own X_DivisionByZero.sub X_DivisionByZero.ty) (by rfl)))) pss_nil)
 (pss_cons (ps_set (i := 2) sc_fraction.nd rfl (Or.inl rfl) (pe_callBfun cr_gcd (by rfl) m_gcd (pa_cons (pv 0) (pa_cons (pv 1) pa_nil))))
 (Evl.pss_cut (ps_if (pt_cmpR op_lt (pv 1) pe_int (nomark _)) (pss_one (ps_set (i := 2) sc_fraction.nd rfl (Or.inl rfl) (pe_un un_neg (pv 2)))) pss_nil)
 (pss_one (ps_ret (pe_tup (pa_cons (pe_op op_fdivG (pv 0) (pv 2)) (pa_cons (pe_op op_fdivG (pv 1) (pv 2)) pa_nil)))))))), ?_⟩
  refine w_start (σ := [some _, some _, none]) rfl ?_
  walk_at "go"
  refine ite_d (fun h0 => ?_) (fun h0 => ?_)
  · exact qE h0
  have q := q h0
  have l := low_frac (n := n) h0
  have g0 : 0 < Nat.gcd n.natAbs d.natAbs := Nat.gcd_pos_of_pos_right _ (by omega)
  have gb : ((Nat.gcd n.natAbs d.natAbs : Nat) : Int).natAbs < 2 ^ 8000 := by
    rw [Int.natAbs_natCast]
    exact Nat.lt_of_le_of_lt (Nat.gcd_le_right _ (by omega)) bd
  walk_at "go"
  generalize Nat.gcd n.natAbs d.natAbs = g at l g0 gb ⊢
  refine w_cut (M := fun σ' H' => H' = H ∧ σ' = [some (.int n), some (.int d), some (.int (if d < 0 then -(g : Int) else (g : Int)))]) ?_ ?_
  · walk_at "go"
    refine ite_d (fun h1 => ?_) (fun h1 => ?_)
    · walk_at "go"
      rw [if_pos h1]
      exact ⟨rfl, rfl⟩
    · walk_at "go"
      rw [if_neg h1]
      exact ⟨rfl, rfl⟩
  rintro σ' H' ⟨rfl, rfl⟩
  have c0 : (if d < 0 then -(g : Int) else (g : Int)) ≠ 0 ∧ (if d < 0 then -(g : Int) else (g : Int)).natAbs < 2 ^ 8000 := by split <;> omega
  generalize (if d < 0 then -(g : Int) else (g : Int)) = c at l c0 ⊢
  walk_at "go"
  refine w_I (div_ok c0.1 c0.2 (by decide)) ?_
  walk_at "go"
  refine w_I (div_ok c0.1 c0.2 (by decide)) ?_
  walk_at "go"
  refine w_newT (show 2 ≤ sizeLine by decide) fun t H1 n1 c1 h1 => ?_
  exact q t _ _ H1 l c1 (.of h1)
end
theorem mulb {x y : Int} {a b : Nat} (hx : x.natAbs < 2 ^ a) (hy : y.natAbs < 2 ^ b) : (x * y).natAbs < 2 ^ (a + b) := by
  rw [Int.natAbs_mul, Nat.pow_add]
  exact Nat.mul_lt_mul'' hx hy
open SX (S S_cat S_len S_tl S_inj)
open TL (numL tl)
open PySem.NumText (AllDigits digitsVal)
section
variable {P : Program} {w : World} {K : PySem.W.Frag} {mg : Str → Option Value} {base : Heap}
abbrev s_whole_power : Stmt := topS 9
theorem sc_whole_power : FnScope ["a", "n", "power", "square", "left"] ["a", "n"] (defScope s_whole_power) := ⟨rfl, rfl, rfl, by decide +kernel, rfl, by decide +kernel, by decide +kernel⟩
def sp_whole_power : Sp := fun vs H Q _ => ∃ (a : Int) (n b : Nat), vs = [.int a, .int n] ∧ a.natAbs < 2 ^ b ∧ b * n ≤ 1000000 ∧ n ≤ 1000000 ∧ Q (.int (a ^ n)) H
theorem c_whole_power {f : Addr} {fd : FuncData} (F : DefF K mg "whole_power" s_whole_power ["a", "n"] f fd) : Cal P w K mg base 1 "whole_power" sp_whole_power := by
  refine cal_of F sc_whole_power (fun vs H Q E h => by obtain ⟨_, _, _, rfl, _⟩ := h; rfl) (fun cdv A outer s H vs Q E hr h => ?_)
  obtain ⟨a, n, b, rfl, hb, hbn, hn, q⟩ := h
  refine ⟨_, (pss_cons (ps_set (i := 2) sc_whole_power.nd rfl (Or.inl rfl) pe_int)
 (pss_cons (ps_set (i := 3) sc_whole_power.nd rfl (Or.inl rfl) (pv 0))
 (pss_cons (ps_set (i := 4) sc_whole_power.nd rfl (Or.inl rfl) (pv 1))
 (pss_cons (ps_while PassesOwn.never (pt_cmpR op_gt (pv 4) pe_int (nomark _)) (Evl.pss_cut (ps_if (pt_cmpR op_eq (pe_op op_mod (pv 4) pe_int) pe_int (nomark _)) (pss_one (ps_set (i := 2) sc_whole_power.nd rfl (Or.inl rfl) (pe_op op_mulG (pv 2) (pv 3)))) pss_nil)
 (pss_cons (ps_set (i := 4) sc_whole_power.nd rfl (Or.inl rfl) (pe_op op_fdiv (pv 4) pe_int))
 (pss_one (ps_if (pt_cmpR op_gt (pv 4) pe_int (nomark _)) (pss_one (ps_set (i := 3) sc_whole_power.nd rfl (Or.inl rfl) (pe_op op_mulG (pv 3) (pv 3)))) pss_nil)))))
 (pss_one (ps_ret (pv 2))))))), ?_⟩
  refine w_start (σ := [some _, some _, none, none, none]) rfl ?_
  walk_at "go"
  refine w_while (fun m σ H' => H' = H ∧ ∃ (s l pw : Nat), σ = [some (.int a), some (.int n), some (.int (a ^ pw)), some (.int (a ^ s)), some (.int (l : Int))] ∧ pw + s * l = n ∧ m = l ∧ l ≤ n ∧ (0 < l → s ≤ n)) n ⟨rfl, 1, n, 0, ?_, by omega, rfl, Nat.le_refl _, fun h => h⟩ ?_
  · rw [Int.pow_zero, Int.pow_succ, Int.pow_zero, Int.one_mul]
    rfl
  rintro m σ H' ⟨rfl, s', l, pw, rfl, e1, rfl, hl, hs⟩
  walk_at "go"
  refine ite_d (fun h0 => ?_) (fun h0 => ?_)
  · have h1 : 0 < m := by omega
    have hsn := hs h1
    walk_at "go"
    have hsz : b * s' + 1 ≤ 1000001 := by
      have := Nat.mul_le_mul_left b hsn
      omega
    have hpz : b * pw + 1 ≤ 1000001 := by
      have : pw ≤ n := by omega
      have := Nat.mul_le_mul_left b this
      omega
    have bs := abs_pow_lt (s := s') hb
    have bp := abs_pow_lt (s := pw) hb
    refine w_cut (M := fun σ' H'' => H'' = H' ∧ ∃ pw' : Nat, σ' = [some (.int a), some (.int n), some (.int (a ^ pw')), some (.int (a ^ s')), some (.int (m : Int))] ∧ pw' + s' * 2 * (m / 2) = n) ?_ ?_
    · walk_at "go"
      refine ite_d (fun ho => ?_) (fun ho => ?_)
      · walk_at "go"
        refine w_I (mul_ok bp bs (by omega)) ?_
        refine ⟨rfl, pw + s', ?_, ?_⟩
        · rw [← Int.pow_add]
          rfl
        · have em : m = 2 * (m / 2) + 1 := by omega
          have e2 : s' * m = s' * (2 * (m / 2)) + s' := by
            conv => lhs; rw [em]
            rw [Nat.mul_add, Nat.mul_one]
          rw [Nat.mul_assoc]
          omega
      · walk_at "go"
        refine ⟨rfl, pw, rfl, ?_⟩
        have em : m = 2 * (m / 2) := by omega
        rw [Nat.mul_assoc, ← em]
        exact e1
    · rintro σ' H'' ⟨rfl, pw', rfl, ep⟩
      walk_at "go"
      have ed : (m : Int) / 2 = ((m / 2 : Nat) : Int) := by omega
      refine ite_d (fun h2 => ?_) (fun h2 => ?_)
      · walk_at "go"
        refine w_I (mul_ok bs bs (by omega)) ?_
        refine ⟨m / 2, by omega, rfl, s' * 2, m / 2, pw', ?_, ep, rfl, by omega, fun _ => ?_⟩
        · rw [ed, Nat.mul_two, Int.pow_add]
          rfl
        · have h3 : 1 ≤ m / 2 := by omega
          have := Nat.mul_le_mul_left (s' * 2) h3
          omega
      · walk_at "go"
        have h3 : m / 2 = 0 := by omega
        refine ⟨m / 2, by omega, rfl, s', m / 2, pw', ?_, ?_, rfl, by omega, fun h => absurd h (by omega)⟩
        · rw [ed]
          rfl
        · rw [h3] at ep ⊢
          omega
  · have h1 : m = 0 := by omega
    subst h1
    walk_at "go"
    have : pw = n := by omega
    subst this
    exact q

/-! ### the text of an integer -/
abbrev s__digits : Stmt := topS 12
theorem sc__digits : FnScope ["n", "run", "text", "left", "low"] ["n"] (defScope s__digits) := ⟨rfl, rfl, rfl, by decide +kernel, rfl, by decide +kernel, by decide +kernel⟩
def sp__digits : Sp := fun vs H Q _ => ∃ n : Int, vs = [.int n] ∧ 0 ≤ n ∧ n.natAbs < 2 ^ 1900 ∧ Q (.str (S (numL n.natAbs))) H
theorem c__digits {t_RUN : Tok} (T : Txt mg) (z_str : mg "str" = none) (z_divmod : mg "divmod" = none) (G__RUN : mg "_RUN" = some (.int 600 t_RUN)) (C_whole_power : Cal P w K mg base 1 "whole_power" sp_whole_power) {f : Addr} {fd : FuncData} (F : DefF K mg "_digits" s__digits ["n"] f fd) : Cal P w K mg base 2 "_digits" sp__digits := by
  refine cal_of F sc__digits (fun vs H Q E h => by obtain ⟨_, rfl, _⟩ := h; rfl) (fun cdv A outer s H vs Q E hr h => ?_)
  obtain ⟨n, rfl, n0, nb, q⟩ := h
  refine ⟨_, (pss_cons (ps_set (i := 1) sc__digits.nd rfl (Or.inl rfl) (pe_cc C_whole_power hr (by decide) (by rfl) (pa_cons pe_int (pa_cons (pe_glob (v := .int 600) (by rfl) G__RUN ⟨_, rfl⟩) pa_nil))))
 (pss_cons (ps_set (i := 2) sc__digits.nd rfl (Or.inl rfl) pe_str)
 (pss_cons (ps_set (i := 3) sc__digits.nd rfl (Or.inl rfl) (pv 0))
 (pss_cons (ps_while PassesOwn.never (pt_cmpR op_ge (pv 3) (pv 1) (nomark _)) (pss_cons (ps_asg (pe_callB cb_dm (by rfl) z_divmod (by decide +kernel) (pa_cons (pv 3) (pa_cons (pv 1) pa_nil))) (k_gtup (K := K) (n := 2) rfl rfl (pgs_cons (pg_name (i := 3) sc__digits.nd rfl (Or.inl rfl)) (pgs_cons (pg_name (i := 4) sc__digits.nd rfl (Or.inl rfl)) pgs_nil))))
 (pss_one (ps_set (i := 2) sc__digits.nd rfl (Or.inl rfl) (pe_op op_addS (pe_bm PySem.F.plainAttrs_str PySem.F.slot_str_zfill PySem.F.type_str_zfill mt_zfillS (pe_callTy cb_strI (by rfl) z_str (by decide +kernel) (pa_cons (pv 4) pa_nil)) (pa_cons (pe_glob (v := .int 600) (by rfl) G__RUN ⟨_, rfl⟩) pa_nil)) (pv 2))))))
 (pss_one (ps_ret (pe_op op_addS (pe_callTy cb_strI (by rfl) z_str (by decide +kernel) (pa_cons (pv 3) pa_nil)) (pv 2)))))))), ?_⟩
  refine w_start (σ := [some _, none, none, none, none]) rfl ?_
  have big : (n : Int) < (10 : Int) ^ 600 := by
    have e : (2 : Nat) ^ 1900 ≤ 10 ^ 600 := by decide +kernel
    have e2 : ((10 : Int) ^ 600) = ((10 ^ 600 : Nat) : Int) := by rw [Int.natCast_pow]; rfl
    rw [e2]
    omega
  walk_at "go"
  refine ⟨10, 600, 4, rfl, by decide, by decide, by decide, ?_⟩
  walk_at "go"
  refine w_while (fun m σ H' => H' = H ∧ σ = [some (.int n), some (.int ((10 : Int) ^ 600)), some (.str (Str.ofString "")), some (.int n), none]) 0 ⟨rfl, rfl⟩ ?_
  rintro m σ H' ⟨rfl, rfl⟩
  walk_at "go"
  refine ite_d (fun h0 => ?_) (fun h0 => ?_)
  · exact absurd h0 (by omega)
  walk_at "go"
  have ln := intL_len (n := n) (k := 600) (by decide) (Nat.lt_of_lt_of_le nb (by decide +kernel))
  refine w_strI nb ?_
  walk_at "go"
  rw [lit_empty, S_cat, List.append_nil, intL_pos (by omega)]
  exact q
abbrev s__write_integer : Stmt := topS 13
theorem sc__write_integer : FnScope ["n"] ["n"] (defScope s__write_integer) := ⟨rfl, rfl, rfl, by decide +kernel, rfl, by decide +kernel, by decide +kernel⟩
def sp__write_integer : Sp := fun vs H Q _ => ∃ n : Int, vs = [.int n] ∧ n.natAbs < 2 ^ 1900 ∧ Q (.str (S (intL n))) H
theorem c__write_integer (C__digits : Cal P w K mg base 2 "_digits" sp__digits) {f : Addr} {fd : FuncData} (F : DefF K mg "_write_integer" s__write_integer ["n"] f fd) : Cal P w K mg base 3 "_write_integer" sp__write_integer := by
  refine cal_of F sc__write_integer (fun vs H Q E h => by obtain ⟨_, rfl, _⟩ := h; rfl) (fun cdv A outer s H vs Q E hr h => ?_)
  obtain ⟨n, rfl, nb, q⟩ := h
  have ln := numL_len_pow (n := n.natAbs) (k := 600) (by decide) (Nat.lt_of_lt_of_le nb (by decide +kernel))
  refine ⟨_, (pss_cons (ps_if (pt_cmpR op_lt (pv 0) pe_int (nomark _)) (pss_one (ps_ret (pe_op op_addS pe_str (pe_cc C__digits hr (by decide) (by rfl) (pa_cons (pe_un un_neg (pv 0)) pa_nil))))) pss_nil)
 (pss_one (ps_ret (pe_cc C__digits hr (by decide) (by rfl) (pa_cons (pv 0) pa_nil))))), ?_⟩
  refine w_start (σ := [some _]) rfl ?_
  walk_at "go"
  refine ite_d (fun h0 => ?_) (fun h0 => ?_)
  · walk_at "go"
    refine ⟨-n, rfl, by omega, by omega, ?_⟩
    rw [Int.natAbs_neg]
    walk_at "go"
    rw [lit_minus, S_cat]
    rw [intL_neg h0] at q
    exact q
  · walk_at "go"
    refine ⟨n, rfl, by omega, nb, ?_⟩
    rw [intL_pos h0] at q
    exact q
abbrev s_write_fraction : Stmt := topS 14
theorem sc_write_fraction : FnScope ["a"] ["a"] (defScope s_write_fraction) := ⟨rfl, rfl, rfl, by decide +kernel, rfl, by decide +kernel, by decide +kernel⟩
def sp_write_fraction (K : PySem.W.Frag) : Sp := fun vs H Q _ => ∃ (a : Addr) (n d : Int), vs = [.ref a] ∧ Fr K H a n d ∧ n.natAbs < 2 ^ 1900 ∧ d.natAbs < 2 ^ 1900 ∧ Q (.str (S (fracL n d))) H
theorem c_write_fraction (C__write_integer : Cal P w K mg base 3 "_write_integer" sp__write_integer) {f : Addr} {fd : FuncData} (F : DefF K mg "write_fraction" s_write_fraction ["a"] f fd) : Cal P w K mg base 4 "write_fraction" (sp_write_fraction K) := by
  refine cal_of F sc_write_fraction (fun vs H Q E h => by obtain ⟨_, _, _, rfl, _⟩ := h; rfl) (fun cdv A outer s H vs Q E hr h => ?_)
  obtain ⟨a, n, d, rfl, fa, nb, db, q⟩ := h
  have ln := intL_len (n := n) (k := 600) (by decide) (Nat.lt_of_lt_of_le nb (by decide +kernel))
  have ld := intL_len (n := d) (k := 600) (by decide) (Nat.lt_of_lt_of_le db (by decide +kernel))
  refine ⟨_, (pss_cons (ps_if (pt_cmpR op_eq (pe_ix (k_ixT (K := K) rfl) (pv 0) pe_int (fun _ _ => rfl)) pe_int (nomark _)) (pss_one (ps_ret (pe_cc C__write_integer hr (by decide) (by rfl) (pa_cons (pe_ix (k_ixT (K := K) rfl) (pv 0) pe_int (fun _ _ => rfl)) pa_nil)))) pss_nil)
 (pss_one (ps_ret (pe_op op_addS (pe_op op_addS (pe_cc C__write_integer hr (by decide) (by rfl) (pa_cons (pe_ix (k_ixT (K := K) rfl) (pv 0) pe_int (fun _ _ => rfl)) pa_nil)) pe_str) (pe_cc C__write_integer hr (by decide) (by rfl) (pa_cons (pe_ix (k_ixT (K := K) rfl) (pv 0) pe_int (fun _ _ => rfl)) pa_nil)))))), ?_⟩
  refine w_start (σ := [some _]) rfl ?_
  unfold fracL at q
  walk_at "go"
  refine ite_d (fun h0 => ?_) (fun h0 => ?_)
  · rw [if_pos h0] at q
    walk_at "go"
    exact ⟨n, rfl, nb, q⟩
  · rw [if_neg h0] at q
    walk_at "go"
    refine ⟨n, rfl, nb, ?_⟩
    walk_at "go"
    refine ⟨d, rfl, db, ?_⟩
    walk_at "go"
    rw [lit_slash, S_cat, S_cat, List.append_assoc]
    exact q
abbrev s_gcd_of : Stmt := topS 10
theorem sc_gcd_of : FnScope ["numbers", "common", "n"] ["numbers"] (defScope s_gcd_of) := ⟨rfl, rfl, rfl, by decide +kernel, rfl, by decide +kernel, by decide +kernel⟩
/-- the greatest common divisor of a list -/
def gcdL (ns : List Int) : Nat := ns.foldl (fun g n => Nat.gcd g n.natAbs) 0
def sp_gcd_of (K : PySem.W.Frag) : Sp := fun vs H Q _ => ∃ (a : Addr) (ns : List Int), vs = [.ref a] ∧ H a = some (.lst (ivs ns)) ∧ Q (.int (gcdL ns : Nat)) H
theorem c_gcd_of (m_gcd : mg "gcd" = some (.builtin "math.gcd")) {f : Addr} {fd : FuncData} (F : DefF K mg "gcd_of" s_gcd_of ["numbers"] f fd) : Cal P w K mg base 1 "gcd_of" (sp_gcd_of K) := by
  refine cal_of F sc_gcd_of (fun vs H Q E h => by obtain ⟨_, _, rfl, _⟩ := h; rfl) (fun cdv A outer s H vs Q E hr h => ?_)
  obtain ⟨a, ns, rfl, ha, q⟩ := h
  refine ⟨_, (pss_cons (ps_set (i := 1) sc_gcd_of.nd rfl (Or.inl rfl) pe_int)
 (pss_cons (ps_for PassesOwn.never rfl (k_piL (K := K) rfl (pv 0)) (pg_name (i := 2) sc_gcd_of.nd rfl (Or.inl rfl)) (pss_one (ps_set (i := 1) sc_gcd_of.nd rfl (Or.inl rfl) (pe_callBfun cr_gcd (by rfl) m_gcd (pa_cons (pv 1) (pa_cons (pv 2) pa_nil))))))
 (pss_one (ps_ret (pv 1))))), ?_⟩
  refine w_start (σ := [some _, none, none]) rfl ?_
  walk_at "go"
  refine for_eL (E := fun n v H => v = .int n) (ls := ns) (xs := ivs ns) (Pv := fun i σ H' => H' = H ∧ ∃ z, σ = [some (.ref a), some (.int (gcdL (ns.take i) : Nat)), z]) (List.length_map ..) ⟨rfl, none, rfl⟩ (fun i σ H' _ h => by obtain ⟨rfl, _⟩ := h; exact ⟨.of ha, List.length_map .., fun i l e => ⟨_, ivs_get e, rfl⟩⟩) ?_ ?_
  · rintro i n x σ H' hn ⟨rfl, z, rfl⟩ rfl
    walk_at "go"
    refine ⟨rfl, some (.int n), ?_⟩
    have e : gcdL (ns.take (i + 1)) = Nat.gcd (gcdL (ns.take i)) n.natAbs := by
      rw [take_snoc hn]
      unfold gcdL
      rw [List.foldl_append]
      rfl
    rw [e]
    rfl
  · rintro σ H' ⟨rfl, z, rfl⟩
    rw [List.take_length]
    walk_at "go"
    exact q
end
end My
namespace My
open PySem PySem.Spec PyProof.Rows L2
section
variable {K : PySem.W.Frag} {C A a : Addr} {H1 : Hp} {Q : VK} {E : XK} {xs : List V} {ts : List Tm} {z : Bool}
/-- Poly(terms), all good -/
theorem mk_poly (hs : SqS K z H1 a xs) (hm : Tms K H1 xs ts) (hl : ts.length < 800000) (ex : ExpOk ts) (q : ∀ p dx t H' us, Nf us → (∀ e, cf us e = cf ts e) → H1 p = none → Ch [] H1 H' → H' p = some (.ins C dx [("terms", .ref t)]) → TmT K H' t us → Q (.ref p) H') :
    MkS C (sp_P_init K C A) [.ref a] E H1 Q := by
  intro x dx nx ndx ne
  have k1 : SqS K z (L2.upd (L2.upd H1 dx (.own x)) x (.ins C dx [])) a xs := by
    cases z
    · have h : H1 a = some (.lst xs) := hs
      show L2.upd (L2.upd H1 dx (.own x)) x (.ins C dx []) a = some (.lst xs)
      rw [upd_ne (ne_of_none h nx), upd_ne (ne_of_none h ndx)]
      exact h
    · exact SqT.updN (SqT.updN (show SqT K H1 a xs from hs) ndx) (by rw [upd_ne (Ne.symm ne)]; exact nx)
  have k2 : Tms K (L2.upd (L2.upd H1 dx (.own x)) x (.ins C dx [])) xs ts := hm.imp fun l v _ h => by
    obtain ⟨b, e, h⟩ := h
    exact ⟨b, e, SqT.updN (SqT.updN h ndx) (by rw [upd_ne (Ne.symm ne)]; exact nx)⟩
  refine ⟨x, dx, a, xs, z, rfl, upd_same, k1, by rw [hm.len]; exact hl, .inl ⟨ts, k2, ex, fun H' t us nf ce kp hx ht => ⟨rfl, ?_⟩⟩⟩
  refine q x dx t H' us nf ce nx (fun b o e => .inl ?_) hx ht
  refine kp b o (ne_of_none e nx) ?_
  rw [upd_ne (ne_of_none e nx), upd_ne (ne_of_none e ndx)]
  exact e
/-- Poly(things), a wrong one among them -/
theorem mk_wrong {bs : List Bool} (hs : SqS K z H1 a xs) (hb : Els (fun b v H => Itm K H b v) H1 xs bs) (hf : false ∈ bs) (hl : xs.length < 800000) (ch : ∀ b v H2, (∀ c o, H1 c = some o → H2 c = some o) → Itm K H1 b v → Itm K H2 b v)
    (q : ∀ H', Ch [] H1 H' → E (.ref A) none H') : MkS C (sp_P_init K C A) [.ref a] E H1 Q := by
  intro x dx nx ndx ne
  have kp : ∀ c o, H1 c = some o → L2.upd (L2.upd H1 dx (.own x)) x (.ins C dx []) c = some o := fun c o e => by
    rw [upd_ne (ne_of_none e nx), upd_ne (ne_of_none e ndx)]
    exact e
  have k1 : SqS K z (L2.upd (L2.upd H1 dx (.own x)) x (.ins C dx [])) a xs := by
    cases z
    · exact kp a _ (show H1 a = some (.lst xs) from hs)
    · exact SqT.updN (SqT.updN (show SqT K H1 a xs from hs) ndx) (by rw [upd_ne (Ne.symm ne)]; exact nx)
  exact ⟨x, dx, a, xs, z, rfl, upd_same, k1, hl, .inr ⟨bs, hb.imp fun b v _ h => ch b v _ kp h, hf, q _ fun b o e => .inl (kp b o e)⟩⟩
theorem nf_nil {us : List Tm} (h : ∀ e, cf us e = cf [] e) (n : Nf us) : us = [] := n.eq .nil h
end
section
variable {P : Program} {w : World} {K : PySem.W.Frag} {mg : Str → Option Value} {base : Heap}
abbrev s__of_terms : Stmt := topS 18
theorem sc__of_terms : FnScope ["terms", "made"] ["terms"] (defScope s__of_terms) := ⟨rfl, rfl, rfl, by decide +kernel, rfl, by decide +kernel, by decide +kernel⟩
def sp__of_terms (C : Addr) : Sp := fun vs H Q _ => ∃ (t : V), vs = [t] ∧ ∀ p dx H', H p = none → Ch [] H H' → H' p = some (.ins C dx [("terms", t)]) → Q (.ref p) H'
theorem c__of_terms {A_Poly A_InvalidPoly A_e : Addr} (T_P : PolyK K mg A_Poly) (UE : ∀ H, SqT K H A_e []) (CI : CalI P w K mg base 3 "Poly" A_Poly [.ref A_e] (sp_P_init K A_Poly A_InvalidPoly)) {f : Addr} {fd : FuncData} (F : DefF K mg "_of_terms" s__of_terms ["terms"] f fd) : Cal P w K mg base 5 "_of_terms" (sp__of_terms A_Poly) := by
  refine cal_of F sc__of_terms (fun vs H Q E h => by obtain ⟨_, rfl, _⟩ := h; rfl) (fun cdv A outer s H vs Q E hr h => ?_)
  obtain ⟨t, rfl, q⟩ := h
  refine ⟨_, (pss_cons (ps_set (i := 1) sc__of_terms.nd rfl (Or.inl rfl) (pe_mkD CI hr (by decide) (by rfl) noLet))
 (pss_cons (k_sfld (K := K) rfl (pv 1) (pv 0) rfl)
 (pss_one (ps_ret (pv 1))))), ?_⟩
  refine w_start (σ := [some _, none]) rfl ?_
  walk_at "go"
  refine mk_poly (a := A_e) (z := true) (UE H) Els.nil (by decide) (fun _ h => nomatch h) fun p dx t0 H1 us nf ce np c1 hp ht => ?_
  walk_at "go"
  refine rset1 T_P hp ?_
  walk_at "go"
  refine q p dx _ np (fun b o e => .inl ?_) upd_same
  rw [upd_ne (ne_of_none e np)]
  exact c1.at0 e
abbrev s__spread : Stmt := topS 24
theorem sc__spread : FnScope ["terms", "term", "c2", "i2", "j2", "k2", "c", "i", "j", "k"] ["terms", "term"] (defScope s__spread) := ⟨rfl, rfl, rfl, by decide +kernel, rfl, by decide +kernel, by decide +kernel⟩
def sp__spread (K : PySem.W.Frag) : Sp := fun vs H Q _ => ∃ (a b : Addr) (xs : List V) (ts : List Tm) (u : Tm), vs = [.ref a, .ref b] ∧ SqT K H a xs ∧ Tms K H xs ts ∧ SqT K H b [.int u.c, .int u.i, .int u.j, .int u.k] ∧ ts.length < 800000 ∧ (∀ t ∈ ts, IntMulOk t.c u.c) ∧
  ∀ t H', Ch [] H H' → TmT K H' t (ts.map u.mul) → Q (.ref t) H'
theorem c__spread (T : Txt mg) {f : Addr} {fd : FuncData} (F : DefF K mg "_spread" s__spread ["terms", "term"] f fd) : Cal P w K mg base 1 "_spread" (sp__spread K) := by
  refine cal_of F sc__spread (fun vs H Q E h => by obtain ⟨_, _, _, _, _, rfl, _⟩ := h; rfl) (fun cdv A outer s H vs Q E hr h => ?_)
  obtain ⟨a, b, xs, ts, u, rfl, ha, hm, hb, hl, hu, q⟩ := h
  refine ⟨_, (pss_cons (ps_asg (pv 1) (k_gtup (K := K) (n := 4) rfl rfl (pgs_cons (pg_name (i := 2) sc__spread.nd rfl (Or.inr rfl)) (pgs_cons (pg_name (i := 3) sc__spread.nd rfl (Or.inr rfl)) (pgs_cons (pg_name (i := 4) sc__spread.nd rfl (Or.inr rfl)) (pgs_cons (pg_name (i := 5) sc__spread.nd rfl (Or.inr rfl)) pgs_nil))))))
 (pss_one (ps_ret (pe_callTy (k_tuple (K := K) rfl) (by rfl) T.z_tuple (by decide +kernel) (pa_cons (pe_lc (own := [("c", 6), ("i", 7), ("j", 8), ("k", 9)]) (g := gTup K 4 (gCons (gName 6) (gCons (gName 7) (gCons (gName 8) (gCons (gName 9) gNil))))) rfl sc__spread.nd (k_piT (K := K) rfl (pv 0)) (blkOk_by (own := [("c", 6), ("i", 7), ("j", 8), ("k", 9)]) (N := ["terms", "term", "c2", "i2", "j2", "k2", "c", "i", "j", "k"]) (sc := defScope s__spread) (by decide +kernel)) (fun _ _ _ _ _ => k_gtup (K := K) rfl rfl (pgs_cons (pg_name (i := 6) sc__spread.nd rfl (Or.inl rfl)) (pgs_cons (pg_name (i := 7) sc__spread.nd rfl (Or.inl rfl)) (pgs_cons (pg_name (i := 8) sc__spread.nd rfl (Or.inl rfl)) (pgs_cons (pg_name (i := 9) sc__spread.nd rfl (Or.inl rfl)) pgs_nil))))) (fun _ _ _ _ _ => pts_nil) (fun _ _ _ _ _ => (pe_tup (pa_cons (pe_op op_mulG (pv 6) (pv 2)) (pa_cons (pe_op op_add (pv 7) (pv 3)) (pa_cons (pe_op op_add (pv 8) (pv 4)) (pa_cons (pe_op op_add (pv 9) (pv 5)) pa_nil))))))) pa_nil))))), ?_⟩
  refine w_start (σ := [some _, some _, none, none, none, none, none, none, none, none]) rfl ?_
  walk_at "go"
  refine lc_e ts (walk_tup (K := K) (a := a) (xs := xs)) hm.len.symm (fun _ => true) (fun t v H => Tme K (u.mul t) v H) (fun _ _ _ _ _ c h => h.ch c) (fun H' c => c.sqT ha) (by rw [hm.len]; omega) ?_ ?_
  · rintro k t x H5 H6 ht c5 ⟨rfl, hx⟩ Nx A1 hN hA
    obtain ⟨v, e1, b1, rfl, hb1⟩ := hm.at_ k t ht
    rw [hx] at e1
    cases e1
    have hb1 := c5.sqT hb1
    walk_at "go"
    refine ⟨rfl, ?_⟩
    walk_at "go"
    refine w_I (hu t (List.mem_of_getElem? ht)) ?_
    walk_at "go"
    refine w_newT (show 4 ≤ sizeLine by decide) fun b3 H8 n8 c8 h8 => ?_
    refine hA _ H8 c8 rfl ⟨b3, rfl, ?_⟩
    rw [Tm.mul_comm]
    exact .of h8
  · intro D H2 out nD c2 hD el
    rw [filter_yes] at el
    walk_at "go"
    refine w_tupleL (.of hD) fun t H6 n6 c6 h6 => ?_
    exact q t H6 (c2.trans c6) ⟨out, .of h6, (el.map (F := Tme K) (f := u.mul) fun _ _ _ h => h).chm c6⟩
abbrev s__multiplied : Stmt := topS 23
theorem sc__multiplied : FnScope ["first", "second", "table", "c", "i", "j", "k", "c2", "i2", "j2", "k2", "key"] ["first", "second"] (defScope s__multiplied) := ⟨rfl, rfl, rfl, by decide +kernel, rfl, by decide +kernel, by decide +kernel⟩
def sp__multiplied (K : PySem.W.Frag) : Sp := fun vs H Q _ => ∃ (a1 a2 : Addr) (xs1 xs2 : List V) (ts us : List Tm), vs = [.ref a1, .ref a2] ∧ SqT K H a1 xs1 ∧ Tms K H xs1 ts ∧ SqT K H a2 xs2 ∧ Tms K H xs2 us ∧ ts.length * us.length + us.length < 800000 ∧ (∀ t ∈ ts, ∀ u ∈ us, IntMulOk t.c u.c) ∧
  ∀ d H', H d = none → Ch [] H H' → H' d = some (.dT (dvT (adds 1 [] (mulT ts us)))) → Q (.ref d) H'
theorem c__multiplied {f : Addr} {fd : FuncData} (F : DefF K mg "_multiplied" s__multiplied ["first", "second"] f fd) : Cal P w K mg base 1 "_multiplied" (sp__multiplied K) := by
  refine cal_of F sc__multiplied (fun vs H Q E h => by obtain ⟨_, _, _, _, _, _, rfl, _⟩ := h; rfl) (fun cdv A outer s H vs Q E hr h => ?_)
  obtain ⟨a1, a2, xs1, xs2, ts, us, rfl, h1, m1, h2, m2, hl, hu, q⟩ := h
  refine ⟨_, (pss_cons (ps_set (i := 2) sc__multiplied.nd rfl (Or.inl rfl) pe_dnewT)
 (pss_cons (ps_for PassesOwn.never rfl (k_piT (K := K) rfl (pv 0)) (k_gtup (K := K) (n := 4) rfl rfl (pgs_cons (pg_name (i := 3) sc__multiplied.nd rfl (Or.inl rfl)) (pgs_cons (pg_name (i := 4) sc__multiplied.nd rfl (Or.inl rfl)) (pgs_cons (pg_name (i := 5) sc__multiplied.nd rfl (Or.inl rfl)) (pgs_cons (pg_name (i := 6) sc__multiplied.nd rfl (Or.inl rfl)) pgs_nil))))) (pss_one (ps_for PassesOwn.never rfl (k_piT (K := K) rfl (pv 1)) (k_gtup (K := K) (n := 4) rfl rfl (pgs_cons (pg_name (i := 7) sc__multiplied.nd rfl (Or.inl rfl)) (pgs_cons (pg_name (i := 8) sc__multiplied.nd rfl (Or.inl rfl)) (pgs_cons (pg_name (i := 9) sc__multiplied.nd rfl (Or.inl rfl)) (pgs_cons (pg_name (i := 10) sc__multiplied.nd rfl (Or.inl rfl)) pgs_nil))))) (pss_cons (ps_set (i := 11) sc__multiplied.nd rfl (Or.inl rfl) (pe_tup (pa_cons (pe_op op_add (pv 4) (pv 8)) (pa_cons (pe_op op_add (pv 5) (pv 9)) (pa_cons (pe_op op_add (pv 6) (pv 10)) pa_nil)))))
 (pss_one (ps_dput (hu_of hr) (pv 2) (pv 11) (pe_op op_add (pe_dget2 (hu_of hr) (pv 2) (pv 11) pe_int ⟨rfl, rfl, rfl, rfl⟩) (pe_op op_mulG (pv 3) (pv 7))) rfl))))))
 (pss_one (ps_ret (pv 2))))), ?_⟩
  refine w_start (σ := [some _, some _, none, none, none, none, none, none, none, none, none, none]) rfl ?_
  walk_at "go"
  refine w_dnewT fun d H1 n1 c1 hd1 => ?_
  walk_at "go"
  refine for_eT (E := Tme K) (ls := ts) (Pv := fun i σ H' => Ch [] H H' ∧ H' d = some (.dT (dvT (adds 1 [] (mulT (ts.take i) us)))) ∧ ∃ z1 z2 z3 z4 z5 z6 z7 z8 z9, σ = [some (.ref a1), some (.ref a2), some (.ref d), z1, z2, z3, z4, z5, z6, z7, z8, z9]) m1.len ⟨c1, hd1, none, none, none, none, none, none, none, none, none, rfl⟩ (fun i σ H' _ h => ⟨h.1.sqT h1, m1.chm h.1⟩) ?_ ?_
  · rintro i t x σ H' ht ⟨c, hd, z1, z2, z3, z4, z5, z6, z7, z8, z9, rfl⟩ hx
    obtain ⟨b, rfl, hb⟩ := hx
    walk_at "go"
    refine for_eT (E := Tme K) (ls := us) (Pv := fun j σ H' => Ch [] H H' ∧ H' d = some (.dT (dvT (adds 1 [] (mulT (ts.take i) us ++ (us.take j).map t.mul)))) ∧ ∃ z5 z6 z7 z8 z9, σ = [some (.ref a1), some (.ref a2), some (.ref d), some (.int t.c), some (.int t.i), some (.int t.j), some (.int t.k), z5, z6, z7, z8, z9]) m2.len ⟨c, by simpa using hd, _, _, _, _, _, rfl⟩ (fun i σ H' _ h => ⟨h.1.sqT h2, m2.chm h.1⟩) ?_ ?_
    · rintro j u x σ H2 hj ⟨c, hd, z5, z6, z7, z8, z9, rfl⟩ hx
      obtain ⟨b2, rfl, hb2⟩ := hx
      walk_at "go"
      refine w_newT (show 3 ≤ sizeLine by decide) fun p H3 n3 c3 h3 => ?_
      walk_at "go"
      have hd3 := c3.at0 hd
      refine risd (.of hd3) ?_
      walk_at "go"
      refine rget2 (e := (t.mul u).e) (.of hd3) h3 ?_
      walk_at "go"
      refine w_I (hu t (List.mem_of_getElem? ht) u (List.mem_of_getElem? hj)) ?_
      walk_at "go"
      refine rput (e := (t.mul u).e) (adds_ok 1 .nil _) hd3 h3 ?_ ?_
      · have l := adds_len 1 [] (mulT (ts.take i) us ++ (us.take j).map t.mul)
        rw [List.length_append, len_mul, List.length_map, List.length_take, List.length_take, List.length_nil] at l
        have a := lt_of_get ht
        have b := lt_of_get hj
        have : min i ts.length * us.length ≤ ts.length * us.length := Nat.mul_le_mul_right _ (Nat.min_le_right _ _)
        omega
      refine ⟨(c.trans c3).put n1, ?_, _, _, _, _, _, rfl⟩
      rw [take_snoc hj, List.map_append, ← List.append_assoc, List.map_cons, List.map_nil, adds_snoc, Int.one_mul]
      exact upd_same
    · rintro σ H2 ⟨c, hd, z5, z6, z7, z8, z9, rfl⟩
      refine ⟨c, ?_, _, _, _, _, _, _, _, _, _, rfl⟩
      rw [List.take_length] at hd
      have e : mulT (ts.take (i + 1)) us = mulT (ts.take i) us ++ us.map t.mul := by
        rw [take_snoc ht]
        unfold mulT
        rw [List.flatMap_append]
        simp
      rw [e]
      exact hd
  · rintro σ H' ⟨c, hd, z1, z2, z3, z4, z5, z6, z7, z8, z9, rfl⟩
    rw [List.take_length] at hd
    walk_at "go"
    exact q d H' n1 c hd
end
end My
namespace My
open PySem PySem.Spec PyProof.Rows L2
/-- coefficients within bounds -/
def Cb (z : Nat) (ts : List Tm) : Prop := ∀ t ∈ ts, t.c.natAbs < 2 ^ z
theorem Cb.mul {z y : Nat} {ts us : List Tm} (h : Cb z ts) (h' : Cb y us) (hz : z + y ≤ 134217728) : ∀ t ∈ ts, ∀ u ∈ us, IntMulOk t.c u.c := fun t ht u hu => mul_ok (h t ht) (h' u hu) hz
theorem tb_sum {ts us : List Tm} {f : Int} (n : Nf ts) (e : Ex) : get0 (adds f (sets [] ts) us) e = cf ts e + f * cf us e := by
  rw [adds_get, sets_get n.distinct (fun _ _ => rfl), get0_nil, Int.zero_add]
section
variable {P : Program} {w : World} {K : PySem.W.Frag} {mg : Str → Option Value} {base : Heap}
def sp_P_sum (K : PySem.W.Frag) (C : Addr) (f : Int) : Sp := fun vs H Q _ => ∃ (p q : Addr) (ts us : List Tm), vs = [.ref p, .ref q] ∧ Po K C H p ts ∧ Po K C H q us ∧ Nf ts ∧ ts.length + us.length < 800000 ∧
  ∀ r H' rs, Nf rs → (∀ e, cf rs e = cf ts e + f * cf us e) → Ch [] H H' → Po K C H' r rs → Q (.ref r) H'
abbrev s_P_add : Stmt := inClass (topS 17) 4
theorem sc_P_add : FnScope ["self", "other"] ["self", "other"] (defScope s_P_add) := ⟨rfl, rfl, rfl, by decide +kernel, rfl, by decide +kernel, by decide +kernel⟩
theorem c_P_add {A_Poly : Addr} (T : Txt mg) (T_P : PolyK K mg A_Poly) (C__mixed : Cal P w K mg base 1 "_mixed" (sp__mixed K)) (C__in_order : Cal P w K mg base 1 "_in_order" (sp__in_order K)) (C__of_terms : Cal P w K mg base 5 "_of_terms" (sp__of_terms A_Poly))
    {f : Addr} {fd : FuncData} (F : DefM K A_Poly "__add__" "Poly.__add__" s_P_add ["self", "other"] f fd) : CalM P w K mg base 6 A_Poly "__add__" (sp_P_sum K A_Poly 1) := by
    refine calM_of F sc_P_add (fun vs H Q E h => by obtain ⟨_, _, _, _, rfl, _⟩ := h; rfl) (fun cdv A outer s H vs Q E hr h => ?_)
    obtain ⟨p, q, ts, us, rfl, hp, hq, n1, hl, qq⟩ := h
    obtain ⟨dx, t, hp, xs, hx, hm⟩ := hp
    obtain ⟨dy, u, hq, ys, hy, hn⟩ := hq
    refine ⟨_, (pss_cons (ps_if (pt_not (pt_val (pe_callB (k_isi (K := K) rfl) (by rfl) T.z_isinstance (by decide +kernel) (pa_cons (pv 1) (pa_cons (pe_glob (v := .ref A_Poly) (by rfl) T_P.gl rfl) pa_nil))))) (pss_one ps_never) pss_nil)
 (pss_one (ps_ret (pe_cc C__of_terms hr (by decide) (by rfl) (pa_cons (pe_cc C__in_order hr (by decide) (by rfl) (pa_cons (pe_cc C__mixed hr (by decide) (by rfl) (pa_cons (k_fld (K := K) rfl (pv 0)) (pa_cons (k_fld (K := K) rfl (pv 1)) (pa_cons pe_int pa_nil)))) pa_nil)) pa_nil))))), ?_⟩
    refine w_start (σ := [some _, some _]) rfl ?_
    walk_at "go"
    refine w_isiP T_P hq ?_
    walk_at "go"
    refine rfld T_P hp ?_
    walk_at "go"
    refine rfld T_P hq ?_
    walk_at "go"
    refine ⟨t, u, 1, xs, ys, ts, us, true, rfl, by decide, hx, hm, hy, hn, by omega, fun d H2 n2 c2 hd => ?_⟩
    walk_at "go"
    have l := adds_len (1) (sets [] ts) us
    have l2 := sets_len [] ts
    refine ⟨d, _, rfl, hd, adds_ok (1) (sets_ok .nil _) _, by simp only [List.length_nil] at *; omega, fun v H3 rs nf ce c3 ht => ?_⟩
    walk_at "go"
    refine ⟨.ref v, rfl, fun r dr H4 n4 c4 h4 => ?_⟩
    exact qq r H4 rs nf (fun e => by rw [ce, tb_sum n1]) (c2.trans (c3.trans c4)) ⟨dr, v, h4, ht.ch c4⟩
abbrev s_P_sub : Stmt := inClass (topS 17) 5
theorem sc_P_sub : FnScope ["self", "other"] ["self", "other"] (defScope s_P_sub) := ⟨rfl, rfl, rfl, by decide +kernel, rfl, by decide +kernel, by decide +kernel⟩
theorem c_P_sub {A_Poly : Addr} (T : Txt mg) (T_P : PolyK K mg A_Poly) (C__mixed : Cal P w K mg base 1 "_mixed" (sp__mixed K)) (C__in_order : Cal P w K mg base 1 "_in_order" (sp__in_order K)) (C__of_terms : Cal P w K mg base 5 "_of_terms" (sp__of_terms A_Poly))
    {f : Addr} {fd : FuncData} (F : DefM K A_Poly "__sub__" "Poly.__sub__" s_P_sub ["self", "other"] f fd) : CalM P w K mg base 6 A_Poly "__sub__" (sp_P_sum K A_Poly (-1)) := by
    refine calM_of F sc_P_sub (fun vs H Q E h => by obtain ⟨_, _, _, _, rfl, _⟩ := h; rfl) (fun cdv A outer s H vs Q E hr h => ?_)
    obtain ⟨p, q, ts, us, rfl, hp, hq, n1, hl, qq⟩ := h
    obtain ⟨dx, t, hp, xs, hx, hm⟩ := hp
    obtain ⟨dy, u, hq, ys, hy, hn⟩ := hq
    refine ⟨_, (pss_cons (ps_if (pt_not (pt_val (pe_callB (k_isi (K := K) rfl) (by rfl) T.z_isinstance (by decide +kernel) (pa_cons (pv 1) (pa_cons (pe_glob (v := .ref A_Poly) (by rfl) T_P.gl rfl) pa_nil))))) (pss_one ps_never) pss_nil)
 (pss_one (ps_ret (pe_cc C__of_terms hr (by decide) (by rfl) (pa_cons (pe_cc C__in_order hr (by decide) (by rfl) (pa_cons (pe_cc C__mixed hr (by decide) (by rfl) (pa_cons (k_fld (K := K) rfl (pv 0)) (pa_cons (k_fld (K := K) rfl (pv 1)) (pa_cons (pe_un un_neg pe_int) pa_nil)))) pa_nil)) pa_nil))))), ?_⟩
    refine w_start (σ := [some _, some _]) rfl ?_
    walk_at "go"
    refine w_isiP T_P hq ?_
    walk_at "go"
    refine rfld T_P hp ?_
    walk_at "go"
    refine rfld T_P hq ?_
    walk_at "go"
    refine ⟨t, u, -1, xs, ys, ts, us, true, rfl, by decide, hx, hm, hy, hn, by omega, fun d H2 n2 c2 hd => ?_⟩
    walk_at "go"
    have l := adds_len (-1) (sets [] ts) us
    have l2 := sets_len [] ts
    refine ⟨d, _, rfl, hd, adds_ok (-1) (sets_ok .nil _) _, by simp only [List.length_nil] at *; omega, fun v H3 rs nf ce c3 ht => ?_⟩
    walk_at "go"
    refine ⟨.ref v, rfl, fun r dr H4 n4 c4 h4 => ?_⟩
    exact qq r H4 rs nf (fun e => by rw [ce, tb_sum n1]) (c2.trans (c3.trans c4)) ⟨dr, v, h4, ht.ch c4⟩
abbrev s_P_mul : Stmt := inClass (topS 17) 6
theorem sc_P_mul : FnScope ["self", "other"] ["self", "other"] (defScope s_P_mul) := ⟨rfl, rfl, rfl, by decide +kernel, rfl, by decide +kernel, by decide +kernel⟩
def sp_P_mul (K : PySem.W.Frag) (C : Addr) : Sp := fun vs H Q _ => ∃ (p q : Addr) (ts us : List Tm) (z y : Nat), vs = [.ref p, .ref q] ∧ Po K C H p ts ∧ Po K C H q us ∧ Nf ts ∧ Nf us ∧ ts.length * us.length + us.length < 800000 ∧ ts.length < 800000 ∧ Cb z ts ∧ Cb y us ∧ z + y ≤ 134217728 ∧
  ∀ r H' rs, Nf rs → (∀ e, cf rs e = cf (mulT ts us) e) → Ch [] H H' → Po K C H' r rs → Q (.ref r) H'
theorem c_P_mul {A_Poly : Addr} (T : Txt mg) (T_P : PolyK K mg A_Poly) (C__spread : Cal P w K mg base 1 "_spread" (sp__spread K)) (C__multiplied : Cal P w K mg base 1 "_multiplied" (sp__multiplied K)) (C__in_order : Cal P w K mg base 1 "_in_order" (sp__in_order K)) (C__of_terms : Cal P w K mg base 5 "_of_terms" (sp__of_terms A_Poly))
    {f : Addr} {fd : FuncData} (F : DefM K A_Poly "__mul__" "Poly.__mul__" s_P_mul ["self", "other"] f fd) : CalM P w K mg base 6 A_Poly "__mul__" (sp_P_mul K A_Poly) := by
  refine calM_of F sc_P_mul (fun vs H Q E h => by obtain ⟨_, _, _, _, _, _, rfl, _⟩ := h; rfl) (fun cdv A outer s H vs Q E hr h => ?_)
  obtain ⟨p, q, ts, us, z, y, rfl, hp, hq, n1, n2, hl, hl2, b1, b2, zy, qq⟩ := h
  obtain ⟨dx, t, hp, xs, hx, hm⟩ := hp
  obtain ⟨dy, u, hq, ys, hy, hn⟩ := hq
  refine ⟨_, (pss_cons (ps_if (pt_not (pt_val (pe_callB (k_isi (K := K) rfl) (by rfl) T.z_isinstance (by decide +kernel) (pa_cons (pv 1) (pa_cons (pe_glob (v := .ref A_Poly) (by rfl) T_P.gl rfl) pa_nil))))) (pss_one ps_never) pss_nil)
 (pss_cons (ps_if (pt_cmpR op_eq (pe_callB (k_len (K := K) rfl) (by rfl) T.z_len PySem.boot_len (pa_cons (k_fld (K := K) rfl (pv 0)) pa_nil)) pe_int (nomark _)) (pss_one (ps_ret (pe_cc C__of_terms hr (by decide) (by rfl) (pa_cons (pe_cc C__spread hr (by decide) (by rfl) (pa_cons (k_fld (K := K) rfl (pv 1)) (pa_cons (pe_ix (k_ixT (K := K) rfl) (k_fld (K := K) rfl (pv 0)) pe_int (fun _ _ => rfl)) pa_nil))) pa_nil)))) pss_nil)
 (pss_cons (ps_if (pt_cmpR op_eq (pe_callB (k_len (K := K) rfl) (by rfl) T.z_len PySem.boot_len (pa_cons (k_fld (K := K) rfl (pv 1)) pa_nil)) pe_int (nomark _)) (pss_one (ps_ret (pe_cc C__of_terms hr (by decide) (by rfl) (pa_cons (pe_cc C__spread hr (by decide) (by rfl) (pa_cons (k_fld (K := K) rfl (pv 0)) (pa_cons (pe_ix (k_ixT (K := K) rfl) (k_fld (K := K) rfl (pv 1)) pe_int (fun _ _ => rfl)) pa_nil))) pa_nil)))) pss_nil)
 (pss_one (ps_ret (pe_cc C__of_terms hr (by decide) (by rfl) (pa_cons (pe_cc C__in_order hr (by decide) (by rfl) (pa_cons (pe_cc C__multiplied hr (by decide) (by rfl) (pa_cons (k_fld (K := K) rfl (pv 0)) (pa_cons (k_fld (K := K) rfl (pv 1)) pa_nil))) pa_nil)) pa_nil))))))), ?_⟩
  refine w_start (σ := [some _, some _]) rfl ?_
  walk_at "go"
  refine w_isiP T_P hq ?_
  walk_at "go"
  refine rfld T_P hp ?_
  walk_at "go"
  rw [hm.len]
  refine ite_d (fun h1 => ?_) (fun h1 => ?_)
  · obtain ⟨o, rfl⟩ : ∃ o, ts = [o] := by
      cases ts with
      | nil => simp at h1
      | cons o ts =>
        cases ts with
        | nil => exact ⟨o, rfl⟩
        | cons _ _ => simp only [List.length_cons] at h1; omega
    walk_at "go"
    refine rfld T_P hq ?_
    walk_at "go"
    refine rfld T_P hp ?_
    walk_at "go"
    obtain ⟨v, e1, b, rfl, hb⟩ := hm.at_ 0 o rfl
    refine w_ixT hx (atI_nat (j := 0) e1) ?_
    walk_at "go"
    refine ⟨u, b, ys, us, o, rfl, hy, hn, hb, by simp only [List.length_cons, List.length_nil] at hl; omega, fun x hx => mul_ok (b2 x hx) (b1 o List.mem_cons_self) (by omega), fun v H3 c3 ht => ?_⟩
    walk_at "go"
    refine ⟨.ref v, rfl, fun r dr H4 n4 c4 h4 => ?_⟩
    exact qq r H4 _ (n2.mul1 (n1.nz o List.mem_cons_self)) (fun e => by rw [mulT_cons, show mulT [] us = [] from rfl, List.append_nil]) (c3.trans c4) ⟨dr, v, h4, ht.ch c4⟩
  walk_at "go"
  refine rfld T_P hq ?_
  walk_at "go"
  rw [hn.len]
  refine ite_d (fun h2 => ?_) (fun h2 => ?_)
  · obtain ⟨o, rfl⟩ : ∃ o, us = [o] := by
      cases us with
      | nil => simp at h2
      | cons o ts =>
        cases ts with
        | nil => exact ⟨o, rfl⟩
        | cons _ _ => simp only [List.length_cons] at h2; omega
    walk_at "go"
    refine rfld T_P hp ?_
    walk_at "go"
    refine rfld T_P hq ?_
    walk_at "go"
    obtain ⟨v, e1, b, rfl, hb⟩ := hn.at_ 0 o rfl
    refine w_ixT hy (atI_nat (j := 0) e1) ?_
    walk_at "go"
    refine ⟨t, b, xs, ts, o, rfl, hx, hm, hb, hl2, fun x hx => mul_ok (b1 x hx) (b2 o List.mem_cons_self) zy, fun v H3 c3 ht => ?_⟩
    walk_at "go"
    refine ⟨.ref v, rfl, fun r dr H4 n4 c4 h4 => ?_⟩
    exact qq r H4 _ (n1.mul1 (n2.nz o List.mem_cons_self)) (fun e => by rw [cf_perm (mulT_perm ts [o]), mulT_cons, show mulT [] ts = [] from rfl, List.append_nil]) (c3.trans c4) ⟨dr, v, h4, ht.ch c4⟩
  walk_at "go"
  refine rfld T_P hp ?_
  walk_at "go"
  refine rfld T_P hq ?_
  walk_at "go"
  refine ⟨t, u, xs, ys, ts, us, rfl, hx, hm, hy, hn, hl, b1.mul b2 zy, fun d H2 n2 c2 hd => ?_⟩
  walk_at "go"
  have l := adds_len 1 [] (mulT ts us)
  rw [len_mul] at l
  refine ⟨d, _, rfl, hd, adds_ok 1 .nil _, by simp only [List.length_nil] at l; omega, fun v H3 rs nf ce c3 ht => ?_⟩
  walk_at "go"
  refine ⟨.ref v, rfl, fun r dr H4 n4 c4 h4 => ?_⟩
  exact qq r H4 rs nf (fun e => by rw [ce, adds_get, get0_nil, Int.zero_add, Int.one_mul]) (c2.trans (c3.trans c4)) ⟨dr, v, h4, ht.ch c4⟩
abbrev s_P_neg : Stmt := inClass (topS 17) 7
theorem sc_P_neg : FnScope ["self", "c", "i", "j", "k"] ["self"] (defScope s_P_neg) := ⟨rfl, rfl, rfl, by decide +kernel, rfl, by decide +kernel, by decide +kernel⟩
def sp_P_neg (K : PySem.W.Frag) (C : Addr) : Sp := fun vs H Q _ => ∃ (p : Addr) (ts : List Tm), vs = [.ref p] ∧ Po K C H p ts ∧ Nf ts ∧ ts.length < 800000 ∧ ∀ r H' , Ch [] H H' → Po K C H' r (ts.map (Tm.scale (-1))) → Q (.ref r) H'
theorem c_P_neg {A_Poly : Addr} (T : Txt mg) (T_P : PolyK K mg A_Poly) (C__of_terms : Cal P w K mg base 5 "_of_terms" (sp__of_terms A_Poly)) {f : Addr} {fd : FuncData} (F : DefM K A_Poly "__neg__" "Poly.__neg__" s_P_neg ["self"] f fd) : CalM P w K mg base 6 A_Poly "__neg__" (sp_P_neg K A_Poly) := by
  refine calM_of F sc_P_neg (fun vs H Q E h => by obtain ⟨_, _, rfl, _⟩ := h; rfl) (fun cdv A outer s H vs Q E hr h => ?_)
  obtain ⟨p, ts, rfl, hp, n1, hl, qq⟩ := h
  obtain ⟨dx, t, hp, xs, hx, hm⟩ := hp
  refine ⟨_, (pss_one (ps_ret (pe_cc C__of_terms hr (by decide) (by rfl) (pa_cons (pe_callTy (k_tuple (K := K) rfl) (by rfl) T.z_tuple (by decide +kernel) (pa_cons (pe_lc (own := [("c", 1), ("i", 2), ("j", 3), ("k", 4)]) (g := gTup K 4 (gCons (gName 1) (gCons (gName 2) (gCons (gName 3) (gCons (gName 4) gNil))))) rfl sc_P_neg.nd (k_piT (K := K) rfl (k_fld (K := K) rfl (pv 0))) (blkOk_by (own := [("c", 1), ("i", 2), ("j", 3), ("k", 4)]) (N := ["self", "c", "i", "j", "k"]) (sc := defScope s_P_neg) (by decide +kernel)) (fun _ _ _ _ _ => k_gtup (K := K) rfl rfl (pgs_cons (pg_name (i := 1) sc_P_neg.nd rfl (Or.inl rfl)) (pgs_cons (pg_name (i := 2) sc_P_neg.nd rfl (Or.inl rfl)) (pgs_cons (pg_name (i := 3) sc_P_neg.nd rfl (Or.inl rfl)) (pgs_cons (pg_name (i := 4) sc_P_neg.nd rfl (Or.inl rfl)) pgs_nil))))) (fun _ _ _ _ _ => pts_nil) (fun _ _ _ _ _ => (pe_tup (pa_cons (pe_un un_neg (pv 1)) (pa_cons (pv 2) (pa_cons (pv 3) (pa_cons (pv 4) pa_nil))))))) pa_nil)) pa_nil)))), ?_⟩
  refine w_start (σ := [some _, none, none, none, none]) rfl ?_
  walk_at "go"
  refine rfld T_P hp ?_
  walk_at "go"
  refine lc_e ts (walk_tup (K := K) (a := t) (xs := xs)) hm.len.symm (fun _ => true) (fun t v H => Tme K (t.scale (-1)) v H) (fun _ _ _ _ _ c h => h.ch c) (fun H' c => c.sqT hx) (by rw [hm.len]; omega) ?_ ?_
  · rintro k t x H5 H6 ht c5 ⟨rfl, hx⟩ Nx A1 hN hA
    obtain ⟨v, e1, b1, rfl, hb1⟩ := hm.at_ k t ht
    rw [hx] at e1
    cases e1
    have hb1 := c5.sqT hb1
    walk_at "go"
    refine ⟨rfl, ?_⟩
    walk_at "go"
    refine w_newT (show 4 ≤ sizeLine by decide) fun b3 H8 n8 c8 h8 => ?_
    refine hA _ H8 c8 rfl ⟨b3, rfl, .of ?_⟩
    show H8 b3 = some (.tup [.int (-1 * t.c), _, _, _])
    rw [Int.neg_one_mul]
    exact h8
  · intro D H2 out nD c2 hD el
    rw [filter_yes] at el
    walk_at "go"
    refine w_tupleL (.of hD) fun v H6 n6 c6 h6 => ?_
    walk_at "go"
    refine ⟨.ref v, rfl, fun r dr H4 n4 c4 h4 => ?_⟩
    refine qq r H4 (c2.trans (c6.trans c4)) ⟨dr, v, h4, out, c4.sqT (.of h6), ?_⟩
    exact ((el.map (F := Tme K) (f := Tm.scale (-1)) fun _ _ _ h => h).chm c6).chm c4
abbrev s_P_eq : Stmt := inClass (topS 17) 8
theorem sc_P_eq : FnScope ["self", "other"] ["self", "other"] (defScope s_P_eq) := ⟨rfl, rfl, rfl, by decide +kernel, rfl, by decide +kernel, by decide +kernel⟩
def sp_P_eq (K : PySem.W.Frag) (C : Addr) : Sp := fun vs H Q _ => ∃ (p : Addr) (v : V) (ts : List Tm), vs = [.ref p, v] ∧ Po K C H p ts ∧ ((∃ q us, v = .ref q ∧ Po K C H q us ∧ Q (.bl (decide (ts = us))) H) ∨ ∃ ty, ty ∈ (["tuple", "list", "str", "NoneType", "int", "bool"] : List String) ∧ TyOf K H v (.type ty) ∧ Q (.bl false) H)
theorem c_P_eq {A_Poly : Addr} (T : Txt mg) (T_P : PolyK K mg A_Poly) {f : Addr} {fd : FuncData} (F : DefM K A_Poly "__eq__" "Poly.__eq__" s_P_eq ["self", "other"] f fd) : CalM P w K mg base 1 A_Poly "__eq__" (sp_P_eq K A_Poly) := by
  refine calM_of F sc_P_eq (fun vs H Q E h => by obtain ⟨_, _, _, rfl, _⟩ := h; rfl) (fun cdv A outer s H vs Q E hr h => ?_)
  obtain ⟨p, v, ts, rfl, hp, qq⟩ := h
  obtain ⟨dx, t, hp, ht⟩ := hp
  refine ⟨_, (pss_cons (ps_if (pt_not (pt_val (pe_callB (k_isi (K := K) rfl) (by rfl) T.z_isinstance (by decide +kernel) (pa_cons (pv 1) (pa_cons (pe_glob (v := .ref A_Poly) (by rfl) T_P.gl rfl) pa_nil))))) (pss_one (ps_ret pe_bl)) pss_nil)
 (pss_one (ps_ret (pe_cmpR (k_eqD (K := K) rfl hr.units) (k_fld (K := K) rfl (pv 0)) (k_fld (K := K) rfl (pv 1)) (nomark _))))), ?_⟩
  refine w_start (σ := [some _, some _]) rfl ?_
  walk_at "go"
  rcases qq with ⟨q, us, rfl, hq, qq⟩ | ⟨ty, m, e, qq⟩
  · obtain ⟨dy, u, hq, hu⟩ := hq
    refine w_isiP T_P hq ?_
    walk_at "go"
    refine rfld T_P hp ?_
    walk_at "go"
    refine rfld T_P hq ?_
    exact w_eqTm ht hu qq
  · refine w_isiNP T_P m e ?_
    walk_at "go"
    exact qq
abbrev s_P_degree : Stmt := inClass (topS 17) 10
theorem sc_P_degree : FnScope ["self", "_", "i", "j", "k"] ["self"] (defScope s_P_degree) := ⟨rfl, rfl, rfl, by decide +kernel, rfl, by decide +kernel, by decide +kernel⟩
def degT : List Tm → Int
  | [] => -1
  | t :: _ => t.i + t.j + t.k
def sp_P_degree (K : PySem.W.Frag) (C : Addr) : Sp := fun vs H Q _ => ∃ (p : Addr) (ts : List Tm), vs = [.ref p] ∧ Po K C H p ts ∧ Q (.int (degT ts)) H
theorem c_P_degree {A_Poly : Addr} (T : Txt mg) (T_P : PolyK K mg A_Poly) {f : Addr} {fd : FuncData} (F : DefM K A_Poly "degree" "Poly.degree" s_P_degree ["self"] f fd) : CalM P w K mg base 1 A_Poly "degree" (sp_P_degree K A_Poly) := by
  refine calM_of F sc_P_degree (fun vs H Q E h => by obtain ⟨_, _, rfl, _⟩ := h; rfl) (fun cdv A outer s H vs Q E hr h => ?_)
  obtain ⟨p, ts, rfl, hp, qq⟩ := h
  obtain ⟨dx, t, hp, xs, hx, hm⟩ := hp
  refine ⟨_, (pss_cons (ps_if (pt_cmpR op_eq (pe_callB (k_len (K := K) rfl) (by rfl) T.z_len PySem.boot_len (pa_cons (k_fld (K := K) rfl (pv 0)) pa_nil)) pe_int (nomark _)) (pss_one (ps_ret (pe_un un_neg pe_int))) pss_nil)
 (pss_cons (ps_asg (pe_ix (k_ixT (K := K) rfl) (k_fld (K := K) rfl (pv 0)) pe_int (fun _ _ => rfl)) (k_gtup (K := K) (n := 4) rfl rfl (pgs_cons (pg_name (i := 1) sc_P_degree.nd rfl (Or.inl rfl)) (pgs_cons (pg_name (i := 2) sc_P_degree.nd rfl (Or.inl rfl)) (pgs_cons (pg_name (i := 3) sc_P_degree.nd rfl (Or.inl rfl)) (pgs_cons (pg_name (i := 4) sc_P_degree.nd rfl (Or.inl rfl)) pgs_nil))))))
 (pss_one (ps_ret (pe_op op_add (pe_op op_add (pv 2) (pv 3)) (pv 4)))))), ?_⟩
  refine w_start (σ := [some _, none, none, none, none]) rfl ?_
  walk_at "go"
  refine rfld T_P hp ?_
  walk_at "go"
  rw [hm.len]
  cases ts with
  | nil =>
    walk_at "go"
    exact qq
  | cons u ts =>
    refine ite_df (by simp only [List.length_cons]; omega) ?_
    walk_at "go"
    refine rfld T_P hp ?_
    walk_at "go"
    obtain ⟨v, e1, b, rfl, hb⟩ := hm.at_ 0 u rfl
    refine w_ixT hx (atI_nat (j := 0) e1) ?_
    walk_at "go"
    exact qq
end
end My
namespace My
open PySem PySem.Spec PyProof.Rows L2
/-- the names of the unknowns -/
def usN : Nat → Str
  | 0 => "x"
  | 1 => "y"
  | _ => "z"
def US : List Str := [usN 0, usN 1, usN 2]
theorem us_at {n : Nat} (h : n < 3) : US[n]? = some (usN n) := by
  obtain rfl | rfl | rfl : n = 0 ∨ n = 1 ∨ n = 2 := by omega
  all_goals rfl
theorem us_inj {n m : Nat} (hn : n < 3) (hm : m < 3) (h : usN n = usN m) : n = m := by
  have x : usN 0 ≠ usN 1 := by decide +kernel
  have y : usN 0 ≠ usN 2 := by decide +kernel
  have z : usN 1 ≠ usN 2 := by decide +kernel
  obtain rfl | rfl | rfl : n = 0 ∨ n = 1 ∨ n = 2 := by omega
  all_goals
    obtain rfl | rfl | rfl : m = 0 ∨ m = 1 ∨ m = 2 := by omega
    all_goals first | rfl | exact absurd h (by assumption) | exact absurd h.symm (by assumption)
/-- the exponent of the n-th unknown -/
def exN (n : Nat) (t : Tm) : Int := if n = 0 then t.i else if n = 1 then t.j else t.k
theorem exAt {n : Nat} (h : n < 3) (t : Tm) : atI [V.int t.c, .int t.i, .int t.j, .int t.k] ((n : Int) + 1) = some (.int (exN n t)) := by
  obtain rfl | rfl | rfl : n = 0 ∨ n = 1 ∨ n = 2 := by omega
  all_goals rfl
/-- with another exponent there -/
def setN (n : Nat) (c p : Int) (t : Tm) : Tm := if n = 0 then ⟨c, p, t.j, t.k⟩ else if n = 1 then ⟨c, t.i, p, t.k⟩ else ⟨c, t.i, t.j, p⟩
/-- the degree in the n-th unknown -/
def degI (n : Nat) : List Tm → Int
  | [] => -1
  | t :: ts => max (exN n t) (degI n ts)
theorem degI_le {n : Nat} {ts : List Tm} {t : Tm} (h : t ∈ ts) : exN n t ≤ degI n ts := by
  induction ts with
  | nil => cases h
  | cons u ts ih =>
    show _ ≤ max _ _
    rcases List.mem_cons.mp h with rfl | h
    · omega
    · have := ih h
      omega
theorem degI_ge (n : Nat) (ts : List Tm) : -1 ≤ degI n ts := by
  induction ts with
  | nil => exact Int.le_refl _
  | cons u ts ih =>
    show _ ≤ max _ _
    omega
theorem degI_mem (n : Nat) (ts : List Tm) : degI n ts = -1 ∨ ∃ t ∈ ts, degI n ts = exN n t := by
  induction ts with
  | nil => exact .inl rfl
  | cons u ts ih =>
    show max _ _ = -1 ∨ ∃ t ∈ u :: ts, max _ _ = exN n t
    rcases Int.le_total (exN n u) (degI n ts) with h | h
    · rw [Int.max_eq_right h]
      rcases ih with e | ⟨t, m, e⟩
      · exact .inl e
      · exact .inr ⟨t, List.mem_cons_of_mem _ m, e⟩
    · rw [Int.max_eq_left h]
      exact .inr ⟨u, List.mem_cons_self, rfl⟩
theorem degI_eq {n : Nat} {ts : List Tm} {m : Int} (h : m ∈ [-1] ++ ts.map (exN n)) (h2 : ∀ y, y ∈ [-1] ++ ts.map (exN n) → y ≤ m) : m = degI n ts := by
  apply Int.le_antisymm
  · rcases List.mem_append.mp h with h | h
    · rw [List.mem_singleton.mp h]
      exact degI_ge n ts
    · obtain ⟨t, ht, rfl⟩ := List.mem_map.mp h
      exact degI_le ht
  · rcases degI_mem n ts with e | ⟨t, ht, e⟩
    · rw [e]
      exact h2 _ (List.mem_append_left _ (List.mem_singleton.mpr rfl))
    · rw [e]
      exact h2 _ (List.mem_append_right _ (List.mem_map.mpr ⟨t, ht, rfl⟩))
/-- a name: an unknown, or the error -/
def Nm (z : Str) (E : XK) (A : Addr) (H : Hp) (R : Nat → Prop) : Prop := (∃ n, n < 3 ∧ z = usN n ∧ R n) ∨ ((∀ n, n < 3 → z ≠ usN n) ∧ ∀ dd H', Ch [] H H' → H' dd = some (.xd [("unknown", .str z)]) → E (.ref A) (some dd) H')
section
variable {P : Program} {w : World} {K : PySem.W.Frag} {mg : Str → Option Value} {base : Heap}
abbrev s_place_of : Stmt := topS 29
theorem sc_place_of : FnScope ["unknown", "place", "name"] ["unknown"] (defScope s_place_of) := ⟨rfl, rfl, rfl, by decide +kernel, rfl, by decide +kernel, by decide +kernel⟩
def sp_place_of (A : Addr) : Sp := fun vs H Q E => ∃ (z : Str), vs = [.str z] ∧ Nm z E A H fun n => ∀ H', Ch [] H H' → Q (.int n) H'
theorem c_place_of {A_UNKNOWNS A_InvalidUnknown : Addr} (T : Txt mg) (G_UNKNOWNS : mg "UNKNOWNS" = some (.ref A_UNKNOWNS)) (UU : ∀ H, SqT K H A_UNKNOWNS (US.map V.str)) (O_InvalidUnknown : OexD P w K mg base 1 "InvalidUnknown" A_InvalidUnknown (sp_init1 K A_InvalidUnknown "unknown"))
    {f : Addr} {fd : FuncData} (F : DefF K mg "place_of" s_place_of ["unknown"] f fd) : CalN P w K mg base 3 "place_of" (sp_place_of A_InvalidUnknown) := by
  refine cal_ofN F sc_place_of (fun vs H Q E h => by obtain ⟨_, rfl, _⟩ := h; rfl) (fun cdv A outer s H vs Q E hr h => ?_)
  obtain ⟨z, rfl, q⟩ := h
  refine ⟨_, (pss_cons (ps_for (passes_of rfl) rfl (k_piE (K := K) rfl (by rfl) T.z_enumerate (pa_cons (pe_glob (v := .ref A_UNKNOWNS) (by rfl) G_UNKNOWNS rfl) pa_nil)) (k_gtup (K := K) (n := 2) rfl rfl (pgs_cons (pg_name (i := 1) sc_place_of.nd rfl (Or.inl rfl)) (pgs_cons (pg_name (i := 2) sc_place_of.nd rfl (Or.inl rfl)) pgs_nil))) (pss_one (ps_if (pt_cmpR op_eq (pv 2) (pv 0) (nomark _)) (pss_one (ps_ret (pv 1))) pss_nil)))
 (pss_one (L2N.ps_raise rfl (L2N.takes_of rfl rfl rfl rfl) (pmk_ox O_InvalidUnknown hr (by decide) (by rfl) (pa_cons (pv 0) pa_nil))))), ?_⟩
  refine w_start (σ := [some _, none, none]) rfl ?_
  walk_at "go"
  refine w_iEr (UU H) ?_
  refine for_w (walk_enumT (xs := US.map V.str)) (fun i σ H' => Ch [] H H' ∧ (∀ n, n < i → z ≠ usN n) ∧ ∃ z1 z2, σ = [some (.str z), z1, z2]) ⟨.refl, fun n hn => absurd hn (Nat.not_lt_zero _), none, none, rfl⟩ (fun i σ H' _ _ => UU H') ?_ ?_
  · rintro i x σ H1 H2 hi ⟨c, hz, z1, z2, rfl⟩ hy
    obtain ⟨b, x1, x2, rfl, nb, rfl, e1, e2⟩ := hy
    have hi : i < 3 := hi
    have e2 : (US.map V.str)[i]? = some x2 := e2
    rw [List.getElem?_map, us_at hi] at e2
    cases e1
    cases e2
    have hb : L2.upd H1 b (.tup [.int (i : Nat), .str (usN i)]) b = some (.tup [.int (i : Nat), .str (usN i)]) := upd_same
    have cb : Ch [] H1 (L2.upd H1 b (.tup [.int (i : Nat), .str (usN i)])) := Ch.new nb
    generalize L2.upd H1 b (.tup [.int (i : Nat), .str (usN i)]) = H2 at hb cb
    walk_at "go"
    refine ite_d (fun h => ?_) (fun h => ?_)
    · walk_at "go"
      rcases q with ⟨n, hn, e, q⟩ | ⟨e, _⟩
      · have : n = i := us_inj hn hi (by rw [← e, h])
        subst this
        exact q _ (c.trans cb)
      · exact absurd h.symm (e i hi)
    · refine ⟨c.trans cb, fun n hn => ?_, _, _, rfl⟩
      rcases Nat.lt_or_ge n i with h2 | h2
      · exact hz n h2
      · have : n = i := by omega
        subst this
        exact fun e => h e.symm
  · rintro σ H' ⟨c, hz, z1, z2, rfl⟩
    have hz : ∀ n, n < 3 → z ≠ usN n := hz
    walk_at "go"
    rcases q with ⟨n, hn, e, _⟩ | ⟨_, q⟩
    · exact absurd e (hz n hn)
    refine w_mkO ?_
    walk_at "go"
    refine mk1_at fun dd H3 c3 hd => ?_
    exact q dd H3 (c.trans c3) hd
abbrev s_P_degree_in : Stmt := inClass (topS 17) 11
theorem sc_P_degree_in : FnScope ["self", "unknown", "place", "term"] ["self", "unknown"] (defScope s_P_degree_in) := ⟨rfl, rfl, rfl, by decide +kernel, rfl, by decide +kernel, by decide +kernel⟩
def sp_P_degree_in (K : PySem.W.Frag) (C A : Addr) : Sp := fun vs H Q E => ∃ (p : Addr) (z : Str) (ts : List Tm), vs = [.ref p, .str z] ∧ Po K C H p ts ∧ ts.length < 800000 ∧ Nm z E A H fun n => ∀ H', Ch [] H H' → Q (.int (degI n ts)) H'
theorem c_P_degree_in {A_Poly A_InvalidUnknown : Addr} (T : Txt mg) (T_P : PolyK K mg A_Poly) (C_place_of : CalN P w K mg base 3 "place_of" (sp_place_of A_InvalidUnknown)) {f : Addr} {fd : FuncData} (F : DefM K A_Poly "degree_in" "Poly.degree_in" s_P_degree_in ["self", "unknown"] f fd) :
    CalMN P w K mg base 4 A_Poly "degree_in" (sp_P_degree_in K A_Poly A_InvalidUnknown) := by
  refine calM_ofN F sc_P_degree_in (fun vs H Q E h => by obtain ⟨_, _, _, rfl, _⟩ := h; rfl) (fun cdv A outer s H vs Q E hr h => ?_)
  obtain ⟨p, z, ts, rfl, hp, hl, q⟩ := h
  obtain ⟨dx, t, hp, xs, hx, hm⟩ := hp
  refine ⟨_, (pss_cons (ps_set (i := 2) sc_P_degree_in.nd rfl (Or.inr rfl) (pe_ccSN C_place_of hr (by decide) (by rfl) (L2N.takes_of rfl rfl rfl rfl) (pa_cons (pv 1) pa_nil)))
 (pss_one (ps_ret (pe_callB (k_max (K := K) rfl rfl) (by rfl) T.z_max (by decide +kernel) (pa_cons (pe_op op_cat (pe_lst (pa_cons (pe_un un_neg pe_int) pa_nil)) (pe_lc (own := [("term", 3)]) (g := gName 3) rfl sc_P_degree_in.nd (k_piT (K := K) rfl (k_fld (K := K) rfl (pv 0))) (blkOk_by (own := [("term", 3)]) (N := ["self", "unknown", "place", "term"]) (sc := defScope s_P_degree_in) (by decide +kernel)) (fun _ _ _ _ _ => pg_name (i := 3) sc_P_degree_in.nd rfl (Or.inl rfl)) (fun _ _ _ _ _ => pts_nil) (fun _ _ _ _ _ => (pe_ix (k_ixT (K := K) rfl) (pv 3) (pe_op op_add (pv 2) pe_int) (fun _ _ => rfl))))) pa_nil))))), ?_⟩
  refine w_start (σ := [some _, some _, none, none]) rfl ?_
  walk_at "go"
  refine ⟨z, rfl, ?_⟩
  rcases q with ⟨n, hn, e, q⟩ | ⟨e, q⟩
  · refine .inl ⟨n, hn, e, fun H1 c1 => ?_⟩
    walk_at "go"
    refine w_newL (show 1 ≤ sizeLine by decide) fun l1 H2 n2 c2 h2 => ?_
    walk_at "go"
    refine rfld T_P ((c1.trans c2).ins hp) ?_
    walk_at "go"
    have c12 := c1.trans c2
    refine lc_e ts (walk_tup (K := K) (a := t) (xs := xs)) hm.len.symm (fun _ => true) (fun t v H => v = .int (exN n t)) (fun _ _ _ _ _ _ h => h) (fun H' c => (c12.trans c).sqT hx) (by rw [hm.len]; omega) ?_ ?_
    · rintro k t x H5 H6 ht c5 ⟨rfl, hx⟩ Nx A1 hN hA
      obtain ⟨v, e1, b1, rfl, hb1⟩ := hm.at_ k t ht
      rw [hx] at e1
      cases e1
      have hb1 := (c12.trans c5).sqT hb1
      walk_at "go"
      refine ⟨rfl, ?_⟩
      walk_at "go"
      refine w_ixT hb1 (exAt hn t) ?_
      exact hA _ H6 .refl rfl rfl
    · intro D H3 out nD c3 hD el
      rw [filter_yes] at el
      have eo : out = ivs (ts.map (exN n)) := by
        rw [ivs, List.map_map]
        have := els_map (f := fun v => v) (g := fun t => V.int (exN n t)) el (fun _ _ _ h => h)
        rw [List.map_id'] at this
        exact this
      subst eo
      refine w_cat (c3.at0 h2) hD (by rw [List.length_map, List.length_map]; have h2 : (800001 : Nat) ≤ sizeLine := by decide
                                      simp only [List.length_cons, List.length_nil]; omega) fun m H4 n4 c4 h4 => ?_
      walk_at "go"
      have h4 : H4 m = some (.lst (ivs ([-1] ++ ts.map (exN n)))) := by
        rw [h4]
        show _ = some (HO.lst (([-1] ++ ts.map (exN n)).map V.int))
        rw [List.map_append]
        rfl
      refine w_maxL (.of h4) (by simp) fun m hm1 hm2 => ?_
      rw [degI_eq hm1 hm2]
      exact q _ (c12.trans (c3.trans c4))
  · exact .inr ⟨e, q⟩
abbrev s_P_unknowns : Stmt := inClass (topS 17) 12
theorem sc_P_unknowns : FnScope ["self", "name"] ["self"] (defScope s_P_unknowns) := ⟨rfl, rfl, rfl, by decide +kernel, rfl, by decide +kernel, by decide +kernel⟩
def unkL (ts : List Tm) : List Str := ((List.range 3).filter fun n => decide (0 < degI n ts)).map usN
def sp_P_unknowns (K : PySem.W.Frag) (C : Addr) : Sp := fun vs H Q _ => ∃ (p : Addr) (ts : List Tm), vs = [.ref p] ∧ Po K C H p ts ∧ ts.length < 800000 ∧ ∀ t H', Ch [] H H' → H' t = some (.tup ((unkL ts).map V.str)) → Q (.ref t) H'
theorem c_P_unknowns {A_Poly A_UNKNOWNS A_InvalidUnknown : Addr} (T : Txt mg) (T_P : PolyK K mg A_Poly) (G_UNKNOWNS : mg "UNKNOWNS" = some (.ref A_UNKNOWNS)) (UU : ∀ H, SqT K H A_UNKNOWNS (US.map V.str)) (C_P_degree_in : CalMN P w K mg base 4 A_Poly "degree_in" (sp_P_degree_in K A_Poly A_InvalidUnknown))
    {f : Addr} {fd : FuncData} (F : DefM K A_Poly "unknowns" "Poly.unknowns" s_P_unknowns ["self"] f fd) : CalM P w K mg base 5 A_Poly "unknowns" (sp_P_unknowns K A_Poly) := by
  refine calM_of F sc_P_unknowns (fun vs H Q E h => by obtain ⟨_, _, rfl, _⟩ := h; rfl) (fun cdv A outer s H vs Q E hr h => ?_)
  obtain ⟨p, ts, rfl, hp, hl, q⟩ := h
  refine ⟨_, (pss_one (ps_ret (pe_callTy (k_tuple (K := K) rfl) (by rfl) T.z_tuple (by decide +kernel) (pa_cons (pe_lc (own := [("name", 1)]) (g := gName 1) rfl sc_P_unknowns.nd (k_piT (K := K) rfl (pe_glob (v := .ref A_UNKNOWNS) (by rfl) G_UNKNOWNS rfl)) (blkOk_by (own := [("name", 1)]) (N := ["self", "name"]) (sc := defScope s_P_unknowns) (by decide +kernel)) (fun _ _ _ _ _ => pg_name (i := 1) sc_P_unknowns.nd rfl (Or.inl rfl)) (fun _ _ _ _ _ => (pts_one (pt_cmpR op_gt (pe_mmS T_P.cls C_P_degree_in hr (by decide) noLet (pv 0) (pa_cons (pv 1) pa_nil)) pe_int (nomark _)))) (fun _ _ _ _ _ => (pv 1))) pa_nil)))), ?_⟩
  refine w_start (σ := [some _, none]) rfl ?_
  walk_at "go"
  refine w_iTr (UU H) ?_
  refine lc_e (List.range 3) (walk_tup (K := K) (a := A_UNKNOWNS) (xs := US.map V.str)) rfl (fun n => decide (0 < degI n ts)) (fun n v H => v = .str (usN n)) (fun _ _ _ _ _ _ h => h) (fun H' c => UU H') (show 3 < 1000000 by decide) ?_ ?_
  · rintro k n x H5 H6 hn c5 ⟨rfl, hx⟩ Nx A1 hN hA
    have hk : k < 3 := lt_of_get hn
    rw [List.getElem?_range hk] at hn
    cases hn
    rw [List.getElem?_map, us_at hk] at hx
    cases hx
    walk_at "go"
    refine ⟨rfl, ?_⟩
    have hp5 := hp.ch c5
    obtain ⟨dx, t, hq, _⟩ := hp5
    walk_at "go"
    refine rme hq rfl ?_
    walk_at "go"
    refine ⟨p, _, ts, rfl, hp.ch c5, hl, .inl ⟨k, hk, rfl, fun H7 c7 => ?_⟩⟩
    walk_at "go"
    refine ite_d (fun h => ?_) (fun h => ?_)
    · walk_at "go"
      exact hA _ H7 c7 (decide_eq_true h) rfl
    · exact hN H7 c7 (decide_eq_false h)
  · intro D H3 out nD c3 hD el
    have eo : out = (unkL ts).map V.str := by
      unfold unkL
      rw [List.map_map]
      have := els_map (f := fun v => v) (g := fun n => V.str (usN n)) el (fun _ _ _ h => h)
      rw [List.map_id'] at this
      exact this
    subst eo
    walk_at "go"
    refine w_tupleL (.of hD) fun v H6 n6 c6 h6 => ?_
    exact q v H6 (c3.trans c6) h6
end
end My
namespace My
open PySem PySem.Spec PyProof.Rows L2
theorem atI_at {xs : List V} {i : Int} {k : Nat} {v : V} (hk : i = (k : Int)) (h : xs[k]? = some v) : atI xs i = some v := by
  subst hk
  exact atI_nat h
/-- powers from 0 to k -/
def pwL (n : Int) (k : Nat) : List V := (List.range (k + 1)).map fun e => V.int (n ^ e)
theorem pwL_succ (n : Int) (k : Nat) : pwL n (k + 1) = pwL n k ++ [.int (n ^ k * n)] := by
  unfold pwL
  rw [List.range_succ, List.map_append, ← Int.pow_succ]
  rfl
theorem pwL_zero (n : Int) : pwL n 0 = [.int 1] := by
  show [V.int (n ^ 0)] = _
  rw [Int.pow_zero]
theorem pwL_last (n : Int) (k : Nat) : atI (pwL n k) (-1) = some (.int (n ^ k)) := by
  unfold pwL
  rw [List.range_succ, List.map_append]
  exact atI_last _ _
theorem pwL_get {n : Int} {k e : Nat} (h : e ≤ k) : (pwL n k)[e]? = some (.int (n ^ e)) := by
  unfold pwL
  rw [List.getElem?_map, List.getElem?_range (by omega)]
  rfl
theorem pwL_len (n : Int) (k : Nat) : (pwL n k).length = k + 1 := by
  unfold pwL
  rw [List.length_map, List.length_range]
def ladL (n d : Int) (m : Nat) : List Int := (List.range (m + 1)).map fun e => n ^ e * d ^ (m - e)
section
variable {P : Program} {w : World} {K : PySem.W.Frag} {mg : Str → Option Value} {base : Heap}
abbrev s__ladder : Stmt := topS 26
theorem sc__ladder : FnScope ["a", "most", "ups", "downs", "_", "e"] ["a", "most"] (defScope s__ladder) := ⟨rfl, rfl, rfl, by decide +kernel, rfl, by decide +kernel, by decide +kernel⟩
def sp__ladder (K : PySem.W.Frag) : Sp := fun vs H Q _ => ∃ (a : Addr) (n d most : Int) (z : Nat), vs = [.ref a, .int most] ∧ Fr K H a n d ∧ n.natAbs < 2 ^ z ∧ d.natAbs < 2 ^ z ∧ most ≤ 90000 ∧ -100000 ≤ most ∧ z ≤ 500 ∧
  ∀ l H', H l = none → Ch [] H H' → H' l = some (.lst (ivs (ladL n d most.toNat))) → Q (.ref l) H'
theorem c__ladder (T : Txt mg) {f : Addr} {fd : FuncData} (F : DefF K mg "_ladder" s__ladder ["a", "most"] f fd) : Cal P w K mg base 1 "_ladder" (sp__ladder K) := by
  refine cal_of F sc__ladder (fun vs H Q E h => by obtain ⟨_, _, _, _, _, rfl, _⟩ := h; rfl) (fun cdv A outer s H vs Q E hr h => ?_)
  obtain ⟨a, n, d, most, z, rfl, fa, bn, bd, hm, hm2, hz, q⟩ := h
  have fa : SqT K H a [.int n, .int d] := fa
  refine ⟨_, (pss_cons (ps_set (i := 2) sc__ladder.nd rfl (Or.inr rfl) (pe_lst (pa_cons pe_int pa_nil)))
 (pss_cons (ps_set (i := 3) sc__ladder.nd rfl (Or.inr rfl) (pe_lst (pa_cons pe_int pa_nil)))
 (pss_cons (ps_for PassesOwn.never rfl (pi_range1 (by rfl) T.z_range (pa_cons (pv 1) pa_nil)) (pg_name (i := 4) sc__ladder.nd rfl (Or.inl rfl)) (pss_cons (ps_expr (pe_bm PySem.F.plainAttrs_list PySem.F.slot_list_append PySem.F.type_list_append mt_append (pv 2) (pa_cons (pe_op op_mulG (pe_ix (k_ixL (K := K) rfl) (pv 2) (pe_un un_neg pe_int) (fun _ _ => rfl)) (pe_ix (k_ixT (K := K) rfl) (pv 0) pe_int (fun _ _ => rfl))) pa_nil)))
 (pss_one (ps_expr (pe_bm PySem.F.plainAttrs_list PySem.F.slot_list_append PySem.F.type_list_append mt_append (pv 3) (pa_cons (pe_op op_mulG (pe_ix (k_ixL (K := K) rfl) (pv 3) (pe_un un_neg pe_int) (fun _ _ => rfl)) (pe_ix (k_ixT (K := K) rfl) (pv 0) pe_int (fun _ _ => rfl))) pa_nil))))))
 (pss_one (ps_ret (pe_lc (own := [("e", 5)]) (g := gName 5) rfl sc__ladder.nd (pi_range1 (by rfl) T.z_range (pa_cons (pe_callB (k_len (K := K) rfl) (by rfl) T.z_len PySem.boot_len (pa_cons (pv 2) pa_nil)) pa_nil)) (blkOk_by (own := [("e", 5)]) (N := ["a", "most", "ups", "downs", "_", "e"]) (sc := defScope s__ladder) (by decide +kernel)) (fun _ _ _ _ _ => pg_name (i := 5) sc__ladder.nd rfl (Or.inl rfl)) (fun _ _ _ _ _ => pts_nil) (fun _ _ _ _ _ => (pe_op op_mulG (pe_ix (k_ixL (K := K) rfl) (pv 2) (pv 5) (fun _ _ => rfl)) (pe_ix (k_ixL (K := K) rfl) (pv 3) (pe_op op_sub (pe_op op_sub (pe_callB (k_len (K := K) rfl) (by rfl) T.z_len PySem.boot_len (pa_cons (pv 3) pa_nil)) pe_int) (pv 5)) (fun _ _ => rfl)))))))))), ?_⟩
  refine w_start (σ := [some _, some _, none, none, none, none]) rfl ?_
  walk_at "go"
  refine w_newL (show 1 ≤ sizeLine by decide) fun l1 H1 n1 c1 h1 => ?_
  walk_at "go"
  refine w_newL (show 1 ≤ sizeLine by decide) fun l2 H2 n2 c2 h2 => ?_
  walk_at "go"
  have ne : l1 ≠ l2 := ne_of_none h1 n2
  have n2' : H l2 = none := c1.free n2
  have szb : (100001 : Nat) < sizeLine := by decide
  refine w_iR1r (by omega) (by omega) ?_
  refine for_R (n := most.toNat) (fun i σ H' => Ch [] H H' ∧ H' l1 = some (.lst (pwL n i)) ∧ H' l2 = some (.lst (pwL d i)) ∧ ∃ z1 z2, σ = [some (.ref a), some (.int most), some (.ref l1), some (.ref l2), z1, z2])
    ⟨c1.trans c2, by rw [pwL_zero]; exact c2.at0 h1, by rw [pwL_zero]; exact h2, none, none, rfl⟩ ?_ ?_
  · rintro i σ H' hi ⟨c, e1, e2, z1, z2, rfl⟩
    have b1 : i * z ≤ 100000 * 500 := Nat.mul_le_mul (by omega) hz
    have b2 : z * i ≤ 100000 * 500 := by rw [Nat.mul_comm]; exact b1
    walk_at "go"
    refine ⟨.inl ⟨rfl, _, .of e1⟩, ?_⟩
    walk_at "go"
    refine w_ixL (.of e1) (pwL_last n i) ?_
    walk_at "go"
    refine w_I (mul_ok (abs_pow_lt bn) bn (by omega)) ?_
    walk_at "go"
    refine w_append e1 (by rw [pwL_len]; omega) fun H3 c3 h3 => ?_
    have c13 := c.cut n1 c3
    have e2 := c3.at1 ne.symm e2
    walk_at "go"
    refine ⟨.inl ⟨rfl, _, .of e2⟩, ?_⟩
    walk_at "go"
    refine w_ixL (.of e2) (pwL_last d i) ?_
    walk_at "go"
    refine w_I (mul_ok (abs_pow_lt bd) bd (by omega)) ?_
    walk_at "go"
    refine w_append e2 (by rw [pwL_len]; omega) fun H4 c4 h4 => ?_
    refine ⟨c13.cut n2' c4, ?_, ?_, _, _, rfl⟩
    · rw [pwL_succ]
      exact c4.at1 ne h3
    · rw [pwL_succ]
      exact h4
  · rintro σ H' ⟨c, e1, e2, z1, z2, rfl⟩
    walk_at "go"
    rw [pwL_len]
    refine w_iR1r (by omega) (by omega) ?_
    have tn : ((most.toNat + 1 : Nat) : Int).toNat = most.toNat + 1 := by omega
    rw [tn]
    refine lc_R (fun e => .int (n ^ e * d ^ (most.toNat - e))) rfl (by omega) ?_ ?_
    · rintro e H3 he c3 S hS
      walk_at "go"
      refine w_ixL (.of (c3.at0 e1)) (atI_at (k := e) (by omega) (pwL_get (Nat.le_of_lt_succ he))) ?_
      walk_at "go"
      refine w_lenL (.of (c3.at0 e2)) ?_
      rw [pwL_len]
      walk_at "go"
      have ie : ((most.toNat + 1 : Nat) : Int) - 1 - (0 + (e : Int)) = ((most.toNat - e : Nat) : Int) := by omega
      refine w_ixL (.of (c3.at0 e2)) (atI_at (k := most.toNat - e) ie (pwL_get (Nat.sub_le _ _))) ?_
      walk_at "go"
      have b1 : z * e ≤ 500 * 100000 := Nat.mul_le_mul hz (by omega)
      have b2 : z * (most.toNat - e) ≤ 500 * 100000 := Nat.mul_le_mul hz (by omega)
      refine w_I (mul_ok (abs_pow_lt bn) (abs_pow_lt bd) (by omega)) ?_
      exact hS H3 .refl
    · intro D H3 nD c3 hD
      refine q D H3 (c.free nD) (c.trans c3) ?_
      rw [hD]
      unfold ladL ivs
      rw [List.map_map]
      rfl
/-- the terms with one power of the n-th unknown, without it -/
def grp (n : Nat) (j : Int) (ts : List Tm) : List Tm := (ts.filter fun t => decide (exN n t = j)).map fun t => setN n t.c 0 t
def coefs (n : Nat) (ts : List Tm) : List (List Tm) := (List.range (degI n ts + 1).toNat).map fun j : Nat => grp n j ts
theorem grp_snoc (n : Nat) (j : Int) (ts : List Tm) (t : Tm) : grp n j (ts ++ [t]) = if exN n t = j then grp n j ts ++ [setN n t.c 0 t] else grp n j ts := by
  unfold grp
  rw [List.filter_append]
  by_cases h : exN n t = j
  · rw [if_pos h, List.filter_cons_of_pos (by simpa using h), List.map_append]
    rfl
  · rw [if_neg h, List.filter_cons_of_neg (by simpa using h), List.filter_nil, List.append_nil]
def PoE (K : PySem.W.Frag) (C : Addr) (us : List Tm) (v : V) (H : Hp) : Prop := ∃ p, v = .ref p ∧ Po K C H p us
theorem exN_nn {n : Nat} {t : Tm} (h : 0 ≤ t.i ∧ 0 ≤ t.j ∧ 0 ≤ t.k) : 0 ≤ exN n t := by
  unfold exN
  split
  · exact h.1
  · split
    · exact h.2.1
    · exact h.2.2
theorem grp_len (n : Nat) (j : Int) (ts : List Tm) : (grp n j ts).length ≤ ts.length := by
  unfold grp
  rw [List.length_map]
  exact List.length_filter_le _ _
abbrev s_P_coefficients : Stmt := inClass (topS 17) 13
theorem sc_P_coefficients : FnScope ["self", "unknown", "place", "groups", "term", "_", "group"] ["self", "unknown"] (defScope s_P_coefficients) := ⟨rfl, rfl, rfl, by decide +kernel, rfl, by decide +kernel, by decide +kernel⟩
def sp_P_coefficients (K : PySem.W.Frag) (C A : Addr) : Sp := fun vs H Q E => ∃ (p : Addr) (z : Str) (ts : List Tm), vs = [.ref p, .str z] ∧ Po K C H p ts ∧ ts.length < 800000 ∧ ExpOk ts ∧ (∀ n, degI n ts ≤ 800000) ∧
  Nm z E A H fun n => ∀ D H' out, H D = none → Ch [] H H' → H' D = some (.lst out) → Els (PoE K C) H' out (coefs n ts) → Q (.ref D) H'
theorem c_P_coefficients {A_Poly A_InvalidUnknown : Addr} (T : Txt mg) (T_P : PolyK K mg A_Poly) (C_place_of : CalN P w K mg base 3 "place_of" (sp_place_of A_InvalidUnknown)) (C_P_degree_in : CalMN P w K mg base 4 A_Poly "degree_in" (sp_P_degree_in K A_Poly A_InvalidUnknown))
    (C__changed : Cal P w K mg base 1 "_changed" (sp__changed K)) (C__of_terms : Cal P w K mg base 5 "_of_terms" (sp__of_terms A_Poly)) {f : Addr} {fd : FuncData} (F : DefM K A_Poly "coefficients" "Poly.coefficients" s_P_coefficients ["self", "unknown"] f fd) :
    CalMN P w K mg base 6 A_Poly "coefficients" (sp_P_coefficients K A_Poly A_InvalidUnknown) := by
  refine calM_ofN F sc_P_coefficients (fun vs H Q E h => by obtain ⟨_, _, _, rfl, _⟩ := h; rfl) (fun cdv A outer s H vs Q E hr h => ?_)
  obtain ⟨p, z, ts, rfl, hp, hl, ex, hdg, q⟩ := h
  obtain ⟨dx, t0, hp0, xs, hx0, hm⟩ := id hp
  refine ⟨_, (pss_cons (ps_set (i := 2) sc_P_coefficients.nd rfl (Or.inl rfl) (pe_ccSN C_place_of hr (by decide) (by rfl) (L2N.takes_of rfl rfl rfl rfl) (pa_cons (pv 1) pa_nil)))
 (pss_cons (ps_setLc (i := 3) (own := [("_", 5)]) (g := gName 5) rfl sc_P_coefficients.nd rfl rfl (sw_true rfl rfl rfl (by decide +kernel)) (pi_range1 (by rfl) T.z_range (pa_cons (pe_op op_add (pe_mmS T_P.cls C_P_degree_in hr (by decide) (letW (L2N.takes_of rfl rfl rfl rfl)) (pv 0) (pa_cons (pv 1) pa_nil)) pe_int) pa_nil)) (blkOk_by (own := [("_", 5)]) (N := ["self", "unknown", "place", "groups", "term", "_", "group"]) (sc := defScope s_P_coefficients) (by decide +kernel)) (fun _ _ _ _ _ => pg_name (i := 5) sc_P_coefficients.nd rfl (Or.inl rfl)) (fun _ _ _ _ _ => pts_nil) (fun _ _ _ _ _ => (pe_lst pa_nil)))
 (pss_cons (ps_for (passes_of rfl) rfl (k_piT (K := K) rfl (k_fld (K := K) rfl (pv 0))) (pg_name (i := 4) sc_P_coefficients.nd rfl (Or.inl rfl)) (pss_one (ps_expr (pe_bm PySem.F.plainAttrs_list PySem.F.slot_list_append PySem.F.type_list_append mt_append (pe_ix (k_ixL (K := K) rfl) (pv 3) (pe_ix (k_ixT (K := K) rfl) (pv 4) (pe_op op_add (pv 2) pe_int) (fun _ _ => rfl)) (fun _ _ => rfl)) (pa_cons (pe_cc C__changed hr (by decide) (by rfl) (pa_cons (pe_ix (k_ixT (K := K) rfl) (pv 4) pe_int (fun _ _ => rfl)) (pa_cons (pv 4) (pa_cons (pv 2) (pa_cons pe_int pa_nil))))) pa_nil)))))
 (pss_one (ps_ret (pe_lc (own := [("group", 6)]) (g := gName 6) rfl sc_P_coefficients.nd (k_piL (K := K) rfl (pv 3)) (blkOk_by (own := [("group", 6)]) (N := ["self", "unknown", "place", "groups", "term", "_", "group"]) (sc := defScope s_P_coefficients) (by decide +kernel)) (fun _ _ _ _ _ => pg_name (i := 6) sc_P_coefficients.nd rfl (Or.inl rfl)) (fun _ _ _ _ _ => pts_nil) (fun _ _ _ _ _ => (pe_cc C__of_terms hr (by decide) (by rfl) (pa_cons (pe_callTy (k_tuple (K := K) rfl) (by rfl) T.z_tuple (by decide +kernel) (pa_cons (pv 6) pa_nil)) pa_nil))))))))), ?_⟩
  refine w_start (σ := [some _, some _, none, none, none, none, none]) rfl ?_
  walk_at "go"
  refine ⟨z, rfl, ?_⟩
  rcases q with ⟨n, hn, e, q⟩ | ⟨e, q⟩
  case inr => exact .inr ⟨e, q⟩
  refine .inl ⟨n, hn, e, fun H1 c1 => ?_⟩
  walk_at "go"
  refine rme (c1.ins hp0) rfl ?_
  walk_at "go"
  refine ⟨p, z, ts, rfl, hp.ch c1, hl, .inl ⟨n, hn, e, fun H2 c2 => ?_⟩⟩
  have c12 := c1.trans c2
  have dg := degI_ge n ts
  have dl := hdg n
  walk_at "go"
  refine w_iR1r (by omega) (by omega) ?_
  have big : (1000000 : Nat) < sizeLine := by decide
  intro D hD
  refine lc_it (walk_range (lo := 0) (n := (degI n ts + 1).toNat)) (fun k H' => Ch [] H2 H' ∧ ∃ as : List Addr, as.length = k ∧ as.Nodup ∧ D ∉ as ∧ (∀ a ∈ as, H2 a = none ∧ H' a = some (.lst [])) ∧ H' D = some (.lst (as.map V.ref)))
    ⟨Ch.new hD, [], rfl, List.nodup_nil, by simp, fun _ h => (nomatch h), upd_same⟩ (fun _ _ _ _ => trivial) ?_ ?_
  · rintro k x H3 H4 hk ⟨c3, as, la, nd, dn, hla, hDa⟩ ⟨rfl, rfl⟩
    refine ⟨wipe1, ?_⟩
    walk_at "go"
    refine w_newL (show 0 ≤ sizeLine by decide) fun l H5 n5 c5 h5 => ?_
    have lD : l ≠ D := fun z => by rw [z, hDa] at n5; cases n5
    refine ⟨_, c5.at0 hDa, by rw [List.length_map]; omega, (c3.trans c5).put hD, as ++ [l], by rw [List.length_append, la]; rfl, ?_, ?_, ?_, ?_⟩
    · rw [List.nodup_append]
      refine ⟨nd, (by simp), fun a ha b hb => ?_⟩
      rw [List.mem_singleton.mp hb]
      intro z
      rw [← z, (hla a ha).2] at n5
      cases n5
    · intro m
      rcases List.mem_append.mp m with m | m
      · exact dn m
      · exact lD (List.mem_singleton.mp m).symm
    · intro a m
      rcases List.mem_append.mp m with m | m
      · refine ⟨(hla a m).1, ?_⟩
        rw [upd_ne (fun z => dn (by rw [← z]; exact m))]
        exact c5.at0 (hla a m).2
      · rw [List.mem_singleton.mp m]
        exact ⟨c3.free n5, by rw [upd_ne lD]; exact h5⟩
    · rw [upd_same, List.map_append]
      rfl
  · rintro H3 ⟨c3, as, la, nd, dn, hla, hDa⟩
    have c13 := c12.trans c3
    have nD : H D = none := c12.free hD
    walk_at "go"
    refine rfld T_P (c13.ins hp0) ?_
    walk_at "go"
    refine for_eT (E := Tme K) (ls := ts) (Pv := fun i σ H' => Ch [] H H' ∧ H' D = some (.lst (as.map V.ref)) ∧ (∀ (j : Nat) (a : Addr), as[j]? = some a → ∃ ys, H' a = some (.lst ys) ∧ Tms K H' ys (grp n j (ts.take i))) ∧
      ∃ z1 z2 z3, σ = [some (.ref p), some (.str z), some (.int n), some (.ref D), z1, z2, z3]) hm.len ⟨c13, hDa, fun j a ha => ⟨[], (hla a (List.mem_of_getElem? ha)).2, Els.nil⟩, _, _, _, rfl⟩ (fun i σ H' _ h => ⟨h.1.sqT hx0, hm.chm h.1⟩) ?_ ?_
    · rintro i t x σ H' ht ⟨c, hDl, hg, z1, z2, z3, rfl⟩ hx
      obtain ⟨b, rfl, hb⟩ := hx
      have tm := List.mem_of_getElem? ht
      have e0 : 0 ≤ exN n t := exN_nn (ex t tm)
      have e1 := degI_le (n := n) tm
      have hj : (exN n t).toNat < as.length := by omega
      obtain ⟨a0, ha⟩ : ∃ a0, as[(exN n t).toNat]? = some a0 := ⟨_, List.getElem?_eq_getElem hj⟩
      have na := (hla _ (List.mem_of_getElem? ha)).1
      obtain ⟨ys, hy, ty⟩ := hg _ _ ha
      walk_at "go"
      refine w_ixT hb (exAt hn t) ?_
      walk_at "go"
      refine w_ixL (.of hDl) (atI_at (k := (exN n t).toNat) (by omega) (by rw [List.getElem?_map, ha]; rfl)) ?_
      walk_at "go"
      refine ⟨.inl ⟨rfl, _, .of hy⟩, ?_⟩
      walk_at "go"
      refine ⟨t.c, 0, n, b, t, rfl, hn, hb, fun v u H5 eu c5 hv => ?_⟩
      walk_at "go"
      refine w_append (c5.at0 hy) (by have := grp_len n (exN n t).toNat (ts.take i); rw [ty.len]; rw [List.length_take] at this; omega) fun H6 c6 h6 => ?_
      refine ⟨(c.trans c5).cut (c12.free na) c6, c6.at1 (fun z => dn (by rw [z]; exact List.mem_of_getElem? ha)) (c5.at0 hDl), fun j a hja => ?_, _, _, _, rfl⟩
      rw [take_snoc ht, grp_snoc]
      by_cases hjj : exN n t = (j : Int)
      · rw [if_pos hjj]
        have : (exN n t).toNat = j := by omega
        rw [this] at ha ty
        rw [ha] at hja
        cases hja
        subst this
        refine ⟨_, h6, ?_⟩
        refine ((ty.chm c5).chm c6).snoc ⟨v, rfl, ?_⟩
        have : u = setN n t.c 0 t := eu
        rw [← this]
        exact c6.sqT (.of hv)
      · rw [if_neg hjj]
        obtain ⟨ys2, hy2, ty2⟩ := hg j a hja
        refine ⟨ys2, c6.at1 (fun z => ?_) (c5.at0 hy2), (ty2.chm c5).chm c6⟩
        have hj2 := lt_of_get hja
        have : j = (exN n t).toNat := (List.getElem?_inj hj2 nd).mp (by rw [hja, ha, z])
        omega
    · rintro σ H' ⟨c, hDl, hg, z1, z2, z3, rfl⟩
      rw [List.take_length] at hg
      walk_at "go"
      refine lc_e (coefs n ts) (walk_list (K := K) (a := D) (xs := as.map V.ref)) (by unfold coefs; rw [List.length_map, List.length_map, List.length_range, la]) (fun _ => true) (PoE K A_Poly) (fun us v L H1 H2 c h => by obtain ⟨p, e, h⟩ := h; exact ⟨p, e, h.ch c⟩) (fun H' c => .of (c.at0 hDl)) (by rw [List.length_map]; omega) ?_ ?_
      · rintro k us x H5 H6 hu c5 ⟨rfl, hx⟩ Nx A1 hN hA
        rw [List.getElem?_map] at hx
        obtain ⟨a, ha, rfl⟩ := Option.map_eq_some_iff.mp hx
        obtain ⟨ys, hy, ty⟩ := hg k a ha
        have eu : us = grp n k ts := by
          unfold coefs at hu
          rw [List.getElem?_map, List.getElem?_range (by have := lt_of_get ha; omega)] at hu
          exact (Option.some.inj hu).symm
        subst eu
        walk_at "go"
        refine ⟨rfl, ?_⟩
        walk_at "go"
        refine w_tupleL (.of (c5.at0 hy)) fun v H7 n7 c7 h7 => ?_
        walk_at "go"
        refine ⟨.ref v, rfl, fun r dr H8 n8 c8 h8 => ?_⟩
        exact hA _ H8 (c7.trans c8) rfl ⟨r, rfl, dr, v, h8, ys, c8.sqT (.of h7), ((ty.chm c5).chm c7).chm c8⟩
      · intro D2 H5 out nD2 c5 hD2 el
        rw [filter_yes] at el
        exact q D2 H5 out (c.free nD2) (c.trans c5) hD2 el
end
end My
namespace My
open PySem PySem.Spec PyProof.Rows L2
theorem walk_zipT {K : PySem.W.Frag} {a b : Addr} {xs ys : List V} {n : Nat} (hn : n = min xs.length ys.length) : Walk (RZ.ItzT K a b) n (fun H => SqT K H a xs ∧ SqT K H b ys) (YPair (fun i => xs[i]?) (fun i => ys[i]?)) := by
  subst hn
  refine ⟨fun i _ hi q => ?_, fun _ q => ⟨xs, ys, q.1, q.2, by omega⟩, fun i H v H' _ q y => ?_⟩
  · have h1 : i < xs.length := by omega
    have h2 : i < ys.length := by omega
    exact ⟨xs, ys, xs[i], ys[i], q.1, q.2, by simp [h1], by simp [h2]⟩
  · obtain ⟨T, x, z, h1, h2, h3, h4, h5⟩ := y
    exact ⟨T, x, z, h1, h2, h3, h4 xs q.1, h5 ys q.2⟩
/-- three fractions -/
def Pt3 (K : PySem.W.Frag) (H : Hp) (a : Addr) (f : Nat → Int × Int) : Prop := ∃ b0 b1 b2, SqT K H a [.ref b0, .ref b1, .ref b2] ∧ Fr K H b0 (f 0).1 (f 0).2 ∧ Fr K H b1 (f 1).1 (f 1).2 ∧ Fr K H b2 (f 2).1 (f 2).2
theorem Pt3.ch {K : PySem.W.Frag} {H H' : Hp} {L : List Addr} {a : Addr} {f : Nat → Int × Int} (h : Pt3 K H a f) (c : Ch L H H') : Pt3 K H' a f := by
  obtain ⟨b0, b1, b2, h, h0, h1, h2⟩ := h
  exact ⟨b0, b1, b2, c.sqT h, c.sqT h0, c.sqT h1, c.sqT h2⟩
/-- sum of g over a list -/
def sumF (g : Tm → Int) (ts : List Tm) : Int := ts.foldl (fun a t => a + g t) 0
theorem sumF_snoc (g : Tm → Int) (ts : List Tm) (t : Tm) : sumF g (ts ++ [t]) = sumF g ts + g t := by
  unfold sumF
  rw [List.foldl_append]
  rfl
def ladV (x : Int × Int) (m e : Nat) : Int := x.1 ^ e * x.2 ^ (m - e)
def mdeg (n : Nat) (ts : List Tm) : Nat := (degI n ts).toNat
def termV (f : Nat → Int × Int) (ts : List Tm) (t : Tm) : Int := t.c * ladV (f 0) (mdeg 0 ts) t.i.toNat * ladV (f 1) (mdeg 1 ts) t.j.toNat * ladV (f 2) (mdeg 2 ts) t.k.toNat
theorem ladL_get {x : Int × Int} {m e : Nat} (h : e ≤ m) : (ivs (ladL x.1 x.2 m))[e]? = some (.int (ladV x m e)) := by
  unfold ladL ivs
  rw [List.map_map, List.getElem?_map, List.getElem?_range (by omega)]
  rfl
theorem ladV_bd {x : Int × Int} {m e z : Nat} (h1 : x.1.natAbs < 2 ^ z) (h2 : x.2.natAbs < 2 ^ z) (h : e ≤ m) : (ladV x m e).natAbs < 2 ^ (z * m + 2) := by
  have a := abs_pow_lt (s := e) h1
  have b := abs_pow_lt (s := m - e) h2
  have c := mulb a b
  refine abs_mono c ?_
  have : z * e + z * (m - e) = z * m := by rw [← Nat.mul_add]; congr 1; omega
  omega
theorem pow_bd {x : Int} {m z : Nat} (h : x.natAbs < 2 ^ z) : (x ^ m).natAbs < 2 ^ (z * m + 1) := abs_pow_lt h
section
variable {P : Program} {w : World} {K : PySem.W.Frag} {mg : Str → Option Value} {base : Heap}
abbrev s_P_value : Stmt := inClass (topS 17) 14
theorem sc_P_value : FnScope ["self", "point", "ladders", "total", "c", "i", "j", "k", "a", "name"] ["self", "point"] (defScope s_P_value) := ⟨rfl, rfl, rfl, by decide +kernel, rfl, by decide +kernel, by decide +kernel⟩
def sp_P_value (K : PySem.W.Frag) (C : Addr) : Sp := fun vs H Q _ => ∃ (p a : Addr) (ts : List Tm) (f : Nat → Int × Int) (z zc : Nat), vs = [.ref p, .ref a] ∧ Po K C H p ts ∧ ts.length < 800000 ∧ ExpOk ts ∧ Pt3 K H a f ∧ (∀ n, n < 3 → (f n).1.natAbs < 2 ^ z ∧ (f n).2.natAbs < 2 ^ z ∧ (f n).2 ≠ 0) ∧ z ≤ 500 ∧
  (∀ n, n < 3 → degI n ts ≤ 90000) ∧ z * (mdeg 0 ts + mdeg 1 ts + mdeg 2 ts) ≤ 7990 ∧ Cb zc ts ∧ zc ≤ 1000000 ∧
  ∀ v x y H', Low (sumF (termV f ts) ts) ((f 0).2 ^ mdeg 0 ts * (f 1).2 ^ mdeg 1 ts * (f 2).2 ^ mdeg 2 ts) x y → Ch [] H H' → Fr K H' v x y → Q (.ref v) H'
theorem c_P_value {A_Poly A_UNKNOWNS A_InvalidUnknown A_DivisionByZero : Addr} (T : Txt mg) (T_P : PolyK K mg A_Poly) (G_UNKNOWNS : mg "UNKNOWNS" = some (.ref A_UNKNOWNS)) (UU : ∀ H, SqT K H A_UNKNOWNS (US.map V.str)) (C_P_degree_in : CalMN P w K mg base 4 A_Poly "degree_in" (sp_P_degree_in K A_Poly A_InvalidUnknown))
    (C__ladder : Cal P w K mg base 1 "_ladder" (sp__ladder K)) (C_fraction : CalN P w K mg base 1 "fraction" (sp_fraction K A_DivisionByZero)) {f : Addr} {fd : FuncData} (F : DefM K A_Poly "value" "Poly.value" s_P_value ["self", "point"] f fd) :
    CalM P w K mg base 5 A_Poly "value" (sp_P_value K A_Poly) := by
  refine calM_of F sc_P_value (fun vs H Q E h => by obtain ⟨_, _, _, _, _, _, rfl, _⟩ := h; rfl) (fun cdv A outer s H vs Q E hr h => ?_)
  obtain ⟨p, a, ts, pt, z, zc, rfl, hp, hl, ex, hpt, hb, hz, hdg, hzz, hc, hzc, q⟩ := h
  obtain ⟨dx, t0, hp0, xs, hx0, hm⟩ := id hp
  obtain ⟨b0, b1, b2, ha, f0, f1, f2⟩ := id hpt
  refine ⟨_, (pss_cons (ps_setLc (i := 2) (own := [("a", 8), ("name", 9)]) (g := gTup K 2 (gCons (gName 8) (gCons (gName 9) gNil))) rfl sc_P_value.nd rfl rfl (sw_true rfl rfl rfl (by decide +kernel)) (k_zipA (K := K) rfl (by rfl) T.z_zip (pa_cons (pv 1) (pa_cons (pe_glob (v := .ref A_UNKNOWNS) (by rfl) G_UNKNOWNS rfl) pa_nil))) (blkOk_by (own := [("a", 8), ("name", 9)]) (N := ["self", "point", "ladders", "total", "c", "i", "j", "k", "a", "name"]) (sc := defScope s_P_value) (by decide +kernel)) (fun _ _ _ _ _ => k_gtup (K := K) rfl rfl (pgs_cons (pg_name (i := 8) sc_P_value.nd rfl (Or.inl rfl)) (pgs_cons (pg_name (i := 9) sc_P_value.nd rfl (Or.inl rfl)) pgs_nil))) (fun _ _ _ _ _ => pts_nil) (fun _ _ _ _ _ => (pe_cc C__ladder hr (by decide) (by rfl) (pa_cons (pv 8) (pa_cons (pe_mmS T_P.cls C_P_degree_in hr (by decide) noLet (pv 0) (pa_cons (pv 9) pa_nil)) pa_nil)))))
 (pss_cons (ps_set (i := 3) sc_P_value.nd rfl (Or.inl rfl) pe_int)
 (pss_cons (ps_for PassesOwn.never rfl (k_piT (K := K) rfl (k_fld (K := K) rfl (pv 0))) (k_gtup (K := K) (n := 4) rfl rfl (pgs_cons (pg_name (i := 4) sc_P_value.nd rfl (Or.inl rfl)) (pgs_cons (pg_name (i := 5) sc_P_value.nd rfl (Or.inl rfl)) (pgs_cons (pg_name (i := 6) sc_P_value.nd rfl (Or.inl rfl)) (pgs_cons (pg_name (i := 7) sc_P_value.nd rfl (Or.inl rfl)) pgs_nil))))) (pss_one (ps_set (i := 3) sc_P_value.nd rfl (Or.inl rfl) (pe_op op_add (pv 3) (pe_op op_mulG (pe_op op_mulG (pe_op op_mulG (pv 4) (pe_ix (k_ixL (K := K) rfl) (pe_ix (k_ixL (K := K) rfl) (pv 2) pe_int (fun _ _ => rfl)) (pv 5) (fun _ _ => rfl))) (pe_ix (k_ixL (K := K) rfl) (pe_ix (k_ixL (K := K) rfl) (pv 2) pe_int (fun _ _ => rfl)) (pv 6) (fun _ _ => rfl))) (pe_ix (k_ixL (K := K) rfl) (pe_ix (k_ixL (K := K) rfl) (pv 2) pe_int (fun _ _ => rfl)) (pv 7) (fun _ _ => rfl)))))))
 (pss_one (ps_ret (pe_ccN C_fraction hr (by decide) (by rfl) (pa_cons (pv 3) (pa_cons (pe_op op_mulG (pe_op op_mulG (pe_ix (k_ixL (K := K) rfl) (pe_ix (k_ixL (K := K) rfl) (pv 2) pe_int (fun _ _ => rfl)) pe_int (fun _ _ => rfl)) (pe_ix (k_ixL (K := K) rfl) (pe_ix (k_ixL (K := K) rfl) (pv 2) pe_int (fun _ _ => rfl)) pe_int (fun _ _ => rfl))) (pe_ix (k_ixL (K := K) rfl) (pe_ix (k_ixL (K := K) rfl) (pv 2) pe_int (fun _ _ => rfl)) pe_int (fun _ _ => rfl))) pa_nil)))))))), ?_⟩
  refine w_start (σ := [some _, some _, none, none, none, none, none, none, none, none]) rfl ?_
  walk_at "go"
  refine w_iZr ha (UU H) ?_
  refine lc_d (List.range 3) (walk_zipT (K := K) (a := a) (b := A_UNKNOWNS) (n := 3) (xs := [.ref b0, .ref b1, .ref b2]) (ys := US.map V.str) rfl) rfl (fun _ => true) (fun D n v H => ∃ l, v = .ref l ∧ l ≠ D ∧ H l = some (.lst (ivs (ladL (pt n).1 (pt n).2 (mdeg n ts))))) (fun D n v H1 H2 c h => by
      obtain ⟨l, e, ne, h⟩ := h
      exact ⟨l, e, ne, c.at1 ne h⟩) (fun H' c => ⟨c.sqT ha, UU H'⟩) (show 3 < 1000000 by decide) ?_ ?_
  · rintro D out k n x H5 H6 hD hDo hn c5 hy Nx A1 hN hA
    obtain ⟨b, x1, x2, rfl, nb, rfl, e1, e2⟩ := hy
    have hk : k < 3 := lt_of_get hn
    rw [List.getElem?_range hk] at hn
    cases hn
    have e2 : (US.map V.str)[k]? = some x2 := e2
    rw [List.getElem?_map, us_at hk] at e2
    cases e2
    have cb : Ch [] H5 (L2.upd H5 b (.tup [x1, .str (usN k)])) := Ch.new nb
    have hbb : L2.upd H5 b (.tup [x1, .str (usN k)]) b = some (.tup [x1, .str (usN k)]) := upd_same
    generalize L2.upd H5 b (.tup [x1, .str (usN k)]) = H6 at cb hbb
    have c56 := c5.trans cb
    obtain ⟨bk, rfl, fk⟩ : ∃ bk, x1 = .ref bk ∧ Fr K H6 bk (pt k).1 (pt k).2 := by
      have e1 : ([.ref b0, .ref b1, .ref b2] : List V)[k]? = some x1 := e1
      obtain rfl | rfl | rfl : k = 0 ∨ k = 1 ∨ k = 2 := by omega
      · cases e1; exact ⟨b0, rfl, c56.sqT f0⟩
      · cases e1; exact ⟨b1, rfl, c56.sqT f1⟩
      · cases e1; exact ⟨b2, rfl, c56.sqT f2⟩
    walk_at "go"
    refine ⟨rfl, ?_⟩
    walk_at "go"
    refine rme (c56.ins hp0) rfl ?_
    walk_at "go"
    refine ⟨p, _, ts, rfl, hp.ch c56, hl, .inl ⟨k, hk, rfl, fun H7 c7 => ?_⟩⟩
    walk_at "go"
    have hbk := hb k hk
    have dg := degI_ge k ts
    have dl := hdg k hk
    refine ⟨bk, (pt k).1, (pt k).2, degI k ts, z, rfl, c7.sqT fk, hbk.1, hbk.2.1, dl, by omega, hz, fun l H8 nl c8 hl8 => ?_⟩
    refine hA _ H8 (cb.trans (c7.trans c8)) rfl ⟨l, rfl, fun e => ?_, hl8⟩
    have := (cb.trans c7).at0 hDo
    rw [← e, nl] at this
    cases this
  · intro D H3 out nD c3 hD el
    rw [filter_yes] at el
    obtain ⟨v0, g0, l0, rfl, ne0, e0⟩ := el.at_ 0 0 rfl
    obtain ⟨v1, g1, l1, rfl, ne1, e1⟩ := el.at_ 1 1 rfl
    obtain ⟨v2, g2, l2, rfl, ne2, e2⟩ := el.at_ 2 2 rfl
    walk_at "go"
    refine rfld T_P (c3.ins hp0) ?_
    walk_at "go"
    have hzd : ∀ n, n < 3 → z * mdeg n ts ≤ 7990 := fun n hn => by
      rw [Nat.mul_add, Nat.mul_add] at hzz
      obtain rfl | rfl | rfl : n = 0 ∨ n = 1 ∨ n = 2 := by omega
      all_goals omega
    refine for_eT (E := Tme K) (ls := ts) (Pv := fun i σ H' => H' = H3 ∧ ∃ z1 z2 z3 z4 z5 z6, σ = [some (.ref p), some (.ref a), some (.ref D), some (.int (sumF (termV pt ts) (ts.take i))), z1, z2, z3, z4, z5, z6]) hm.len ⟨rfl, _, _, _, _, _, _, rfl⟩ (fun i σ H' _ h => by obtain ⟨rfl, _⟩ := h; exact ⟨c3.sqT hx0, hm.chm c3⟩) ?_ ?_
    · rintro i t x σ H' ht ⟨rfl, z1, z2, z3, z4, z5, z6, rfl⟩ hx
      obtain ⟨b, rfl, hb1⟩ := hx
      have tm := List.mem_of_getElem? ht
      obtain ⟨x0, x1, x2⟩ := ex t tm
      have d0 : t.i ≤ degI 0 ts := degI_le (n := 0) tm
      have d1 : t.j ≤ degI 1 ts := degI_le (n := 1) tm
      have d2 : t.k ≤ degI 2 ts := degI_le (n := 2) tm
      have m0 : t.i.toNat ≤ mdeg 0 ts := by unfold mdeg; omega
      have m1 : t.j.toNat ≤ mdeg 1 ts := by unfold mdeg; omega
      have m2 : t.k.toNat ≤ mdeg 2 ts := by unfold mdeg; omega
      have bd0 := ladV_bd (hb 0 (by decide)).1 (hb 0 (by decide)).2.1 m0
      have bd1 := ladV_bd (hb 1 (by decide)).1 (hb 1 (by decide)).2.1 m1
      have bd2 := ladV_bd (hb 2 (by decide)).1 (hb 2 (by decide)).2.1 m2
      have y0 := hzd 0 (by decide)
      have y1 := hzd 1 (by decide)
      have y2 := hzd 2 (by decide)
      have bc := hc t tm
      walk_at "go"
      refine w_ixL (.of hD) (atI_nat (j := 0) g0) ?_
      walk_at "go"
      refine w_ixL (.of e0) (atI_at (k := t.i.toNat) (by omega) (ladL_get m0)) ?_
      walk_at "go"
      refine w_I (mul_ok bc bd0 (by omega)) ?_
      have p0 := mulb bc bd0
      walk_at "go"
      refine w_ixL (.of hD) (atI_nat (j := 1) g1) ?_
      walk_at "go"
      refine w_ixL (.of e1) (atI_at (k := t.j.toNat) (by omega) (ladL_get m1)) ?_
      walk_at "go"
      refine w_I (mul_ok p0 bd1 (by omega)) ?_
      have p1 := mulb p0 bd1
      walk_at "go"
      refine w_ixL (.of hD) (atI_nat (j := 2) g2) ?_
      walk_at "go"
      refine w_ixL (.of e2) (atI_at (k := t.k.toNat) (by omega) (ladL_get m2)) ?_
      walk_at "go"
      refine w_I (mul_ok p1 bd2 (by omega)) ?_
      walk_at "go"
      rw [take_snoc ht, sumF_snoc]
      exact ⟨rfl, _, _, _, _, _, _, rfl⟩
    · rintro σ H' ⟨rfl, z1, z2, z3, z4, z5, z6, rfl⟩
      rw [List.take_length]
      have lz : ∀ n, ladV (pt n) (mdeg n ts) 0 = (pt n).2 ^ mdeg n ts := fun n => by
        unfold ladV
        rw [Int.pow_zero, Int.one_mul, Nat.sub_zero]
      have b0 := pow_bd (m := mdeg 0 ts) (hb 0 (by decide)).2.1
      have b1 := pow_bd (m := mdeg 1 ts) (hb 1 (by decide)).2.1
      have b2 := pow_bd (m := mdeg 2 ts) (hb 2 (by decide)).2.1
      have y0 := hzd 0 (by decide)
      have y1 := hzd 1 (by decide)
      have y2 := hzd 2 (by decide)
      walk_at "go"
      refine w_ixL (.of hD) (atI_nat (j := 0) g0) ?_
      walk_at "go"
      refine w_ixL (.of e0) (atI_at (k := 0) rfl (ladL_get (Nat.zero_le _))) ?_
      rw [lz 0]
      walk_at "go"
      refine w_ixL (.of hD) (atI_nat (j := 1) g1) ?_
      walk_at "go"
      refine w_ixL (.of e1) (atI_at (k := 0) rfl (ladL_get (Nat.zero_le _))) ?_
      rw [lz 1]
      walk_at "go"
      refine w_I (mul_ok b0 b1 (by omega)) ?_
      have p1 := mulb b0 b1
      walk_at "go"
      refine w_ixL (.of hD) (atI_nat (j := 2) g2) ?_
      walk_at "go"
      refine w_ixL (.of e2) (atI_at (k := 0) rfl (ladL_get (Nat.zero_le _))) ?_
      rw [lz 2]
      walk_at "go"
      refine w_I (mul_ok p1 b2 (by omega)) ?_
      have p2 := mulb p1 b2
      walk_at "go"
      have ne : (pt 0).2 ^ mdeg 0 ts * (pt 1).2 ^ mdeg 1 ts * (pt 2).2 ^ mdeg 2 ts ≠ 0 := by
        refine Int.mul_ne_zero (Int.mul_ne_zero ?_ ?_) ?_
        · exact Int.pow_ne_zero (hb 0 (by decide)).2.2
        · exact Int.pow_ne_zero (hb 1 (by decide)).2.2
        · exact Int.pow_ne_zero (hb 2 (by decide)).2.2
      refine ⟨_, _, rfl, abs_mono p2 ?_, fun h => absurd h ne, fun _ v x y H4 lo c4 hv => ?_⟩
      · rw [Nat.mul_add, Nat.mul_add] at hzz
        omega
      exact q v x y H4 lo (c3.trans c4) hv
end
end My
namespace My
open PySem PySem.Spec PyProof.Rows L2
/-- a fraction put in the place of the n-th unknown, times a power of its denominator -/
def putL (n : Nat) (x : Int × Int) (ts : List Tm) : List Tm := ts.map fun t => setN n (t.c * ladV x (mdeg n ts) (exN n t).toNat) 0 t
/-- the coefficients of a row, set one by one -/
def rowL (n : Nat) (ts : List Tm) : List Int := ts.foldl (fun r t => r.set (exN n t).toNat t.c) (List.replicate (degI n ts + 1).toNat 0)
def rowA (n : Nat) (r : List Int) (ts : List Tm) : List Int := ts.foldl (fun r t => r.set (exN n t).toNat t.c) r
theorem rowA_snoc (n : Nat) (r : List Int) (ts : List Tm) (t : Tm) : rowA n r (ts ++ [t]) = (rowA n r ts).set (exN n t).toNat t.c := by
  unfold rowA
  rw [List.foldl_append]
  rfl
theorem rowA_len (n : Nat) (r : List Int) (ts : List Tm) : (rowA n r ts).length = r.length := by
  unfold rowA
  induction ts generalizing r with
  | nil => rfl
  | cons t ts ih =>
    rw [List.foldl_cons, ih, List.length_set]
def Alone (n : Nat) (ts : List Tm) : Prop := ∀ t ∈ ts, t.i + t.j + t.k = exN n t
def slpL (n : Nat) (ts : List Tm) : List Tm := (ts.filter fun t => decide (0 < exN n t)).map fun t => setN n (t.c * exN n t) (exN n t - 1) t
theorem slpL_snoc (n : Nat) (ts : List Tm) (t : Tm) : slpL n (ts ++ [t]) = if 0 < exN n t then slpL n ts ++ [setN n (t.c * exN n t) (exN n t - 1) t] else slpL n ts := by
  unfold slpL
  rw [List.filter_append]
  by_cases h : 0 < exN n t
  · rw [if_pos h, List.filter_cons_of_pos (by simpa using h), List.map_append]
    rfl
  · rw [if_neg h, List.filter_cons_of_neg (by simpa using h), List.filter_nil, List.append_nil]
theorem slpL_len (n : Nat) (ts : List Tm) : (slpL n ts).length ≤ ts.length := by
  unfold slpL
  rw [List.length_map]
  exact List.length_filter_le _ _
/-- the content with the sign of the first term -/
def cont (ts : List Tm) : Int := match ts with
  | [] => 0
  | t :: _ => if t.c < 0 then -(gcdL (ts.map Tm.c) : Nat) else (gcdL (ts.map Tm.c) : Nat)
theorem gcdL_dvd {ns : List Int} {n : Int} (h : n ∈ ns) : gcdL ns ∣ n.natAbs := by
  have key : ∀ (ns : List Int) (g : Nat), ns.foldl (fun g n => Nat.gcd g n.natAbs) g ∣ g ∧ ∀ n ∈ ns, ns.foldl (fun g n => Nat.gcd g n.natAbs) g ∣ n.natAbs := by
    intro ns
    induction ns with
    | nil => intro g; exact ⟨Nat.dvd_refl g, fun _ h => nomatch h⟩
    | cons m ns ih =>
      intro g
      obtain ⟨a, b⟩ := ih (Nat.gcd g m.natAbs)
      refine ⟨Nat.dvd_trans a (Nat.gcd_dvd_left _ _), fun n hn => ?_⟩
      rcases List.mem_cons.mp hn with rfl | hn
      · exact Nat.dvd_trans a (Nat.gcd_dvd_right _ _)
      · exact b n hn
  exact (key ns 0).2 n h
theorem cont_cons (t : Tm) (ts : List Tm) : cont (t :: ts) = if t.c < 0 then -(gcdL ((t :: ts).map Tm.c) : Int) else (gcdL ((t :: ts).map Tm.c) : Int) := rfl
theorem cont_ne {ts : List Tm} (h : ts ≠ []) (n : Nf ts) : cont ts ≠ 0 ∧ ∀ t ∈ ts, (cont ts).natAbs ∣ t.c.natAbs := by
  have ab : ∀ t ∈ ts, gcdL (ts.map Tm.c) ∣ t.c.natAbs := fun t ht => gcdL_dvd (List.mem_map.mpr ⟨t, ht, rfl⟩)
  cases ts with
  | nil => exact absurd rfl h
  | cons u ts =>
    have nz := n.nz u List.mem_cons_self
    have g0 : 0 < gcdL ((u :: ts).map Tm.c) := Nat.pos_of_dvd_of_pos (ab u List.mem_cons_self) (by omega)
    have e : (cont (u :: ts)).natAbs = gcdL ((u :: ts).map Tm.c) := by
      show (if u.c < 0 then -(gcdL ((u :: ts).map Tm.c) : Int) else (gcdL ((u :: ts).map Tm.c) : Int)).natAbs = _
      split <;> omega
    exact ⟨fun z => by rw [z, Int.natAbs_zero] at e; omega, fun t ht => by rw [e]; exact ab t ht⟩
def prmL (ts : List Tm) : List Tm := ts.map fun t => ⟨t.c.fdiv (cont ts), t.i, t.j, t.k⟩
section
variable {P : Program} {w : World} {K : PySem.W.Frag} {mg : Str → Option Value} {base : Heap}
abbrev s_P_put : Stmt := inClass (topS 17) 15
theorem sc_P_put : FnScope ["self", "unknown", "a", "place", "ladder", "terms", "term"] ["self", "unknown", "a"] (defScope s_P_put) := ⟨rfl, rfl, rfl, by decide +kernel, rfl, by decide +kernel, by decide +kernel⟩
def sp_P_put (K : PySem.W.Frag) (C A : Addr) : Sp := fun vs H Q E => ∃ (p a : Addr) (s : Str) (ts : List Tm) (x : Int × Int) (z zc : Nat), vs = [.ref p, .str s, .ref a] ∧ Po K C H p ts ∧ ts.length < 800000 ∧ ExpOk ts ∧ Fr K H a x.1 x.2 ∧ x.1.natAbs < 2 ^ z ∧ x.2.natAbs < 2 ^ z ∧ z ≤ 500 ∧ (∀ n, n < 3 → degI n ts ≤ 90000) ∧ Cb zc ts ∧ zc ≤ 1000000 ∧
  Nm s E A H fun n => ∀ r H' us, Nf us → (∀ e, cf us e = cf (putL n x ts) e) → Ch [] H H' → Po K C H' r us → Q (.ref r) H'
theorem c_P_put {A_Poly A_InvalidUnknown : Addr} (T : Txt mg) (T_P : PolyK K mg A_Poly) (C_place_of : CalN P w K mg base 3 "place_of" (sp_place_of A_InvalidUnknown)) (C_P_degree_in : CalMN P w K mg base 4 A_Poly "degree_in" (sp_P_degree_in K A_Poly A_InvalidUnknown)) (C__ladder : Cal P w K mg base 1 "_ladder" (sp__ladder K))
    (C__changed : Cal P w K mg base 1 "_changed" (sp__changed K)) (C__collected : Cal P w K mg base 2 "_collected" (sp__collected K)) (C__of_terms : Cal P w K mg base 5 "_of_terms" (sp__of_terms A_Poly)) {f : Addr} {fd : FuncData} (F : DefM K A_Poly "put" "Poly.put" s_P_put ["self", "unknown", "a"] f fd) :
    CalMN P w K mg base 6 A_Poly "put" (sp_P_put K A_Poly A_InvalidUnknown) := by
  refine calM_ofN F sc_P_put (fun vs H Q E h => by obtain ⟨_, _, _, _, _, _, _, rfl, _⟩ := h; rfl) (fun cdv A outer s H vs Q E hr h => ?_)
  obtain ⟨p, a, zs, ts, x, z, zc, rfl, hp, hl, ex, fa, bn, bd, hz, hdg, hc, hzc, q⟩ := h
  obtain ⟨dx, t0, hp0, xs, hx0, hm⟩ := id hp
  refine ⟨_, (pss_cons (ps_set (i := 3) sc_P_put.nd rfl (Or.inr rfl) (pe_ccSN C_place_of hr (by decide) (by rfl) (L2N.takes_of rfl rfl rfl rfl) (pa_cons (pv 1) pa_nil)))
 (pss_cons (ps_set (i := 4) sc_P_put.nd rfl (Or.inr rfl) (pe_cc C__ladder hr (by decide) (by rfl) (pa_cons (pv 2) (pa_cons (pe_mmS T_P.cls C_P_degree_in hr (by decide) (letW (L2N.takes_of rfl rfl rfl rfl)) (pv 0) (pa_cons (pv 1) pa_nil)) pa_nil))))
 (pss_cons (ps_setLc (i := 5) (own := [("term", 6)]) (g := gName 6) rfl sc_P_put.nd rfl rfl (sw_true rfl rfl rfl (by decide +kernel)) (k_piT (K := K) rfl (k_fld (K := K) rfl (pv 0))) (blkOk_by (own := [("term", 6)]) (N := ["self", "unknown", "a", "place", "ladder", "terms", "term"]) (sc := defScope s_P_put) (by decide +kernel)) (fun _ _ _ _ _ => pg_name (i := 6) sc_P_put.nd rfl (Or.inl rfl)) (fun _ _ _ _ _ => pts_nil) (fun _ _ _ _ _ => (pe_cc C__changed hr (by decide) (by rfl) (pa_cons (pe_op op_mulG (pe_ix (k_ixT (K := K) rfl) (pv 6) pe_int (fun _ _ => rfl)) (pe_ix (k_ixL (K := K) rfl) (pv 4) (pe_ix (k_ixT (K := K) rfl) (pv 6) (pe_op op_add (pv 3) pe_int) (fun _ _ => rfl)) (fun _ _ => rfl))) (pa_cons (pv 6) (pa_cons (pv 3) (pa_cons pe_int pa_nil)))))))
 (pss_one (ps_ret (pe_cc C__of_terms hr (by decide) (by rfl) (pa_cons (pe_cc C__collected hr (by decide) (by rfl) (pa_cons (pv 5) pa_nil)) pa_nil))))))), ?_⟩
  refine w_start (σ := [some _, some _, some _, none, none, none, none]) rfl ?_
  walk_at "go"
  refine ⟨zs, rfl, ?_⟩
  rcases q with ⟨n, hn, e, q⟩ | ⟨e, q⟩
  case inr => exact .inr ⟨e, q⟩
  refine .inl ⟨n, hn, e, fun H1 c1 => ?_⟩
  walk_at "go"
  refine rme (c1.ins hp0) rfl ?_
  walk_at "go"
  refine ⟨p, zs, ts, rfl, hp.ch c1, hl, .inl ⟨n, hn, e, fun H2 c2 => ?_⟩⟩
  have c12 := c1.trans c2
  have dg := degI_ge n ts
  have dl := hdg n hn
  walk_at "go"
  refine ⟨a, x.1, x.2, degI n ts, z, rfl, c12.sqT fa, bn, bd, dl, by omega, hz, fun l H3 nl c3 hl3 => ?_⟩
  have c13 := c12.trans c3
  have hl3 : H3 l = some (.lst (ivs (ladL x.1 x.2 (mdeg n ts)))) := hl3
  walk_at "go"
  refine rfld T_P (c13.ins hp0) ?_
  walk_at "go"
  refine lc_e ts (walk_tup (K := K) (a := t0) (xs := xs)) hm.len.symm (fun _ => true) (fun t v H => Tme K (setN n (t.c * ladV x (mdeg n ts) (exN n t).toNat) 0 t) v H) (fun _ _ _ _ _ c h => h.ch c) (fun H' c => (c13.trans c).sqT hx0) (by rw [hm.len]; omega) ?_ ?_
  · rintro k t y H5 H6 ht c5 ⟨rfl, hx⟩ Nx A1 hN hA
    obtain ⟨v, e1, b1, rfl, hb1⟩ := hm.at_ k t ht
    rw [hx] at e1
    cases e1
    have hb1 := (c13.trans c5).sqT hb1
    have tm := List.mem_of_getElem? ht
    have e0 : 0 ≤ exN n t := exN_nn (ex t tm)
    have e2 := degI_le (n := n) tm
    have m0 : (exN n t).toNat ≤ mdeg n ts := by unfold mdeg; omega
    have mz : z * mdeg n ts ≤ 500 * 90000 := Nat.mul_le_mul hz (by unfold mdeg; omega)
    walk_at "go"
    refine ⟨rfl, ?_⟩
    walk_at "go"
    refine w_ixT hb1 (exAt hn t) ?_
    walk_at "go"
    refine w_ixL (.of (c5.at0 hl3)) (atI_at (k := (exN n t).toNat) (by omega) (ladL_get m0)) ?_
    walk_at "go"
    refine w_I (mul_ok (hc t tm) (ladV_bd bn bd m0) (by omega)) ?_
    walk_at "go"
    refine ⟨_, 0, n, b1, t, rfl, hn, hb1, fun v u H7 eu c7 hv => ?_⟩
    refine hA _ H7 c7 rfl ⟨v, rfl, .of ?_⟩
    have eu : u = setN n (t.c * ladV x (mdeg n ts) (exN n t).toNat) 0 t := eu
    rw [← eu]
    exact hv
  · intro D H5 out nD c5 hD el
    rw [filter_yes] at el
    walk_at "go"
    have em : Tms K H5 out (putL n x ts) := el.map (F := Tme K) (f := fun t => setN n (t.c * ladV x (mdeg n ts) (exN n t).toNat) 0 t) fun _ _ _ h => h
    refine ⟨D, out, putL n x ts, false, rfl, hD, em, by unfold putL; rw [List.length_map]; exact hl, fun v H6 us nf ce c6 hv => ?_⟩
    walk_at "go"
    refine ⟨.ref v, rfl, fun r dr H7 n7 c7 h7 => ?_⟩
    exact q r H7 us nf ce (c13.trans (c5.trans (c6.trans c7))) ⟨dr, v, h7, hv.ch c7⟩
abbrev s_P_as_row : Stmt := inClass (topS 17) 16
theorem sc_P_as_row : FnScope ["self", "unknown", "place", "numbers", "term", "_"] ["self", "unknown"] (defScope s_P_as_row) := ⟨rfl, rfl, rfl, by decide +kernel, rfl, by decide +kernel, by decide +kernel⟩
def sp_P_as_row (K : PySem.W.Frag) (C A N : Addr) : Sp := fun vs H Q E => ∃ (p : Addr) (s : Str) (ts : List Tm), vs = [.ref p, .str s] ∧ Po K C H p ts ∧ ts.length < 800000 ∧ ExpOk ts ∧ (∀ n, n < 3 → degI n ts ≤ 90000) ∧
  Nm s E A H fun n => (Alone n ts ∧ ∀ t H', Ch [] H H' → H' t = some (.tup (ivs (rowL n ts))) → Q (.ref t) H') ∨ (¬ Alone n ts ∧ ∀ H', Ch [] H H' → E (.ref N) none H')
theorem c_P_as_row {A_Poly A_InvalidUnknown A_NotOneUnknown : Addr} (T : Txt mg) (T_P : PolyK K mg A_Poly) (X_NotOneUnknown : ExcF K mg "NotOneUnknown" A_NotOneUnknown) (C_place_of : CalN P w K mg base 3 "place_of" (sp_place_of A_InvalidUnknown))
    (C_P_degree_in : CalMN P w K mg base 4 A_Poly "degree_in" (sp_P_degree_in K A_Poly A_InvalidUnknown)) {f : Addr} {fd : FuncData} (F : DefM K A_Poly "as_row" "Poly.as_row" s_P_as_row ["self", "unknown"] f fd) :
    CalMN P w K mg base 5 A_Poly "as_row" (sp_P_as_row K A_Poly A_InvalidUnknown A_NotOneUnknown) := by
  refine calM_ofN F sc_P_as_row (fun vs H Q E h => by obtain ⟨_, _, _, rfl, _⟩ := h; rfl) (fun cdv A outer s H vs Q E hr h => ?_)
  obtain ⟨p, zs, ts, rfl, hp, hl, ex, hdg, q⟩ := h
  obtain ⟨dx, t0, hp0, xs, hx0, hm⟩ := id hp
  refine ⟨_, (pss_cons (ps_set (i := 2) sc_P_as_row.nd rfl (Or.inl rfl) (pe_ccSN C_place_of hr (by decide) (by rfl) (L2N.takes_of rfl rfl rfl rfl) (pa_cons (pv 1) pa_nil)))
 (pss_cons (ps_setLc (i := 3) (own := [("_", 5)]) (g := gName 5) rfl sc_P_as_row.nd rfl rfl (sw_true rfl rfl rfl (by decide +kernel)) (pi_range1 (by rfl) T.z_range (pa_cons (pe_op op_add (pe_mmS T_P.cls C_P_degree_in hr (by decide) (letW (L2N.takes_of rfl rfl rfl rfl)) (pv 0) (pa_cons (pv 1) pa_nil)) pe_int) pa_nil)) (blkOk_by (own := [("_", 5)]) (N := ["self", "unknown", "place", "numbers", "term", "_"]) (sc := defScope s_P_as_row) (by decide +kernel)) (fun _ _ _ _ _ => pg_name (i := 5) sc_P_as_row.nd rfl (Or.inl rfl)) (fun _ _ _ _ _ => pts_nil) (fun _ _ _ _ _ => pe_int))
 (pss_cons (ps_for (passes_of rfl) rfl (k_piT (K := K) rfl (k_fld (K := K) rfl (pv 0))) (pg_name (i := 4) sc_P_as_row.nd rfl (Or.inl rfl)) (pss_cons (ps_if (pt_cmpR op_ne (pe_op op_add (pe_op op_add (pe_ix (k_ixT (K := K) rfl) (pv 4) pe_int (fun _ _ => rfl)) (pe_ix (k_ixT (K := K) rfl) (pv 4) pe_int (fun _ _ => rfl))) (pe_ix (k_ixT (K := K) rfl) (pv 4) pe_int (fun _ _ => rfl))) (pe_ix (k_ixT (K := K) rfl) (pv 4) (pe_op op_add (pv 2) pe_int) (fun _ _ => rfl)) (nomark _)) (pss_one (L2N.ps_raise rfl (L2N.takes_of rfl rfl rfl rfl) (pmk_own0N PySem.F.excBase_ValueError X_NotOneUnknown.xin X_NotOneUnknown.gl X_NotOneUnknown.kp (raises_own X_NotOneUnknown.sub X_NotOneUnknown.ty) (by rfl)))) pss_nil)
 (pss_one (ps_asg (pe_ix (k_ixT (K := K) rfl) (pv 4) pe_int (fun _ _ => rfl)) (pg_sub (pv 3) (pe_ix (k_ixT (K := K) rfl) (pv 4) (pe_op op_add (pv 2) pe_int) (fun _ _ => rfl)) set_list)))))
 (pss_one (ps_ret (pe_callTy (k_tuple (K := K) rfl) (by rfl) T.z_tuple (by decide +kernel) (pa_cons (pv 3) pa_nil))))))), ?_⟩
  refine w_start (σ := [some _, some _, none, none, none, none]) rfl ?_
  walk_at "go"
  refine ⟨zs, rfl, ?_⟩
  rcases q with ⟨n, hn, e, q⟩ | ⟨e, q⟩
  case inr => exact .inr ⟨e, q⟩
  refine .inl ⟨n, hn, e, fun H1 c1 => ?_⟩
  walk_at "go"
  refine rme (c1.ins hp0) rfl ?_
  walk_at "go"
  refine ⟨p, zs, ts, rfl, hp.ch c1, hl, .inl ⟨n, hn, e, fun H2 c2 => ?_⟩⟩
  have c12 := c1.trans c2
  have dg := degI_ge n ts
  have dl := hdg n hn
  walk_at "go"
  refine w_iR1r (by omega) (by omega) ?_
  refine lc_R (fun _ => .int 0) rfl (by omega) ?_ ?_
  · rintro k H3 hk c3 S hS
    walk_at "go"
    exact hS H3 .refl
  · intro D H3 nD c3 hD
    have c13 := c12.trans c3
    have nD0 := c12.free nD
    have eD : H3 D = some (.lst (ivs (rowA n (List.replicate (degI n ts + 1).toNat 0) (ts.take 0)))) := by
      rw [hD, List.map_const', List.length_range]
      show _ = some (HO.lst (ivs (List.replicate (degI n ts + 1).toNat 0)))
      unfold ivs
      rw [List.map_replicate]
    walk_at "go"
    refine rfld T_P (c13.ins hp0) ?_
    walk_at "go"
    refine for_eT (E := Tme K) (ls := ts) (Pv := fun i σ H' => Ch [] H H' ∧ H' D = some (.lst (ivs (rowA n (List.replicate (degI n ts + 1).toNat 0) (ts.take i)))) ∧ (∀ t ∈ ts.take i, t.i + t.j + t.k = exN n t) ∧
      ∃ z1 z2, σ = [some (.ref p), some (.str zs), some (.int n), some (.ref D), z1, z2]) hm.len ⟨c13, eD, fun _ h => (nomatch h), _, _, rfl⟩ (fun i σ H' _ h => ⟨h.1.sqT hx0, hm.chm h.1⟩) ?_ ?_
    · rintro i t x σ H' ht ⟨c, hDl, hal, z1, z2, rfl⟩ hx
      obtain ⟨b, rfl, hb⟩ := hx
      have tm := List.mem_of_getElem? ht
      have e0 : 0 ≤ exN n t := exN_nn (ex t tm)
      have e1 := degI_le (n := n) tm
      walk_at "go"
      refine w_ixT hb (exAt hn t) ?_
      walk_at "go"
      refine ite_nd (fun h => ?_) (fun h => ?_)
      · walk_at "go"
        rcases q with ⟨al, _⟩ | ⟨_, q⟩
        · exact absurd (al t tm) h
        · exact q H' c
      · walk_at "go"
        refine w_ixT hb (exAt hn t) ?_
        walk_at "go"
        refine w_setL hDl (k := (exN n t).toNat) (by omega) (by rw [List.length_map, rowA_len, List.length_replicate]; omega) fun H4 c4 h4 => ?_
        refine ⟨c.cut nD0 c4, ?_, fun u hu => ?_, _, _, rfl⟩
        · rw [take_snoc ht, rowA_snoc, h4]
          unfold ivs
          rw [List.map_set]
        · rw [take_snoc ht] at hu
          rcases List.mem_append.mp hu with hu | hu
          · exact hal u hu
          · rw [List.mem_singleton.mp hu]
            exact h
    · rintro σ H' ⟨c, hDl, hal, z1, z2, rfl⟩
      rw [List.take_length] at hDl hal
      walk_at "go"
      refine w_tupleL (.of hDl) fun v H4 n4 c4 h4 => ?_
      rcases q with ⟨_, q⟩ | ⟨al, _⟩
      · exact q v H4 (c.trans c4) h4
      · exact absurd hal al
abbrev s_P_slope : Stmt := inClass (topS 17) 17
theorem sc_P_slope : FnScope ["self", "unknown", "place", "terms", "term", "power"] ["self", "unknown"] (defScope s_P_slope) := ⟨rfl, rfl, rfl, by decide +kernel, rfl, by decide +kernel, by decide +kernel⟩
def sp_P_slope (K : PySem.W.Frag) (C A : Addr) : Sp := fun vs H Q E => ∃ (p : Addr) (s : Str) (ts : List Tm), vs = [.ref p, .str s] ∧ Po K C H p ts ∧ ts.length < 800000 ∧ (∀ n, n < 3 → degI n ts ≤ 90000) ∧
  Nm s E A H fun n => ∀ r H', Ch [] H H' → Po K C H' r (slpL n ts) → Q (.ref r) H'
theorem c_P_slope {A_Poly A_InvalidUnknown : Addr} (T : Txt mg) (T_P : PolyK K mg A_Poly) (C_place_of : CalN P w K mg base 3 "place_of" (sp_place_of A_InvalidUnknown)) (C__changed : Cal P w K mg base 1 "_changed" (sp__changed K)) (C__of_terms : Cal P w K mg base 5 "_of_terms" (sp__of_terms A_Poly))
    {f : Addr} {fd : FuncData} (F : DefM K A_Poly "slope" "Poly.slope" s_P_slope ["self", "unknown"] f fd) : CalMN P w K mg base 6 A_Poly "slope" (sp_P_slope K A_Poly A_InvalidUnknown) := by
  refine calM_ofN F sc_P_slope (fun vs H Q E h => by obtain ⟨_, _, _, rfl, _⟩ := h; rfl) (fun cdv A outer s H vs Q E hr h => ?_)
  obtain ⟨p, zs, ts, rfl, hp, hl, hdg, q⟩ := h
  obtain ⟨dx, t0, hp0, xs, hx0, hm⟩ := id hp
  refine ⟨_, (pss_cons (ps_set (i := 2) sc_P_slope.nd rfl (Or.inl rfl) (pe_ccSN C_place_of hr (by decide) (by rfl) (L2N.takes_of rfl rfl rfl rfl) (pa_cons (pv 1) pa_nil)))
 (pss_cons (ps_set (i := 3) sc_P_slope.nd rfl (Or.inl rfl) (pe_lst pa_nil))
 (pss_cons (ps_for (passes_of rfl) rfl (k_piT (K := K) rfl (k_fld (K := K) rfl (pv 0))) (pg_name (i := 4) sc_P_slope.nd rfl (Or.inl rfl)) (pss_cons (ps_set (i := 5) sc_P_slope.nd rfl (Or.inl rfl) (pe_ix (k_ixT (K := K) rfl) (pv 4) (pe_op op_add (pv 2) pe_int) (fun _ _ => rfl)))
 (pss_one (ps_if (pt_cmpR op_gt (pv 5) pe_int (nomark _)) (pss_one (ps_expr (pe_bm PySem.F.plainAttrs_list PySem.F.slot_list_append PySem.F.type_list_append mt_append (pv 3) (pa_cons (pe_cc C__changed hr (by decide) (by rfl) (pa_cons (pe_op op_mulG (pe_ix (k_ixT (K := K) rfl) (pv 4) pe_int (fun _ _ => rfl)) (pv 5)) (pa_cons (pv 4) (pa_cons (pv 2) (pa_cons (pe_op op_sub (pv 5) pe_int) pa_nil))))) pa_nil)))) pss_nil))))
 (pss_one (ps_ret (pe_cc C__of_terms hr (by decide) (by rfl) (pa_cons (pe_callTy (k_tuple (K := K) rfl) (by rfl) T.z_tuple (by decide +kernel) (pa_cons (pv 3) pa_nil)) pa_nil))))))), ?_⟩
  refine w_start (σ := [some _, some _, none, none, none, none]) rfl ?_
  walk_at "go"
  refine ⟨zs, rfl, ?_⟩
  rcases q with ⟨n, hn, e, q⟩ | ⟨e, q⟩
  case inr => exact .inr ⟨e, q⟩
  refine .inl ⟨n, hn, e, fun H1 c1 => ?_⟩
  walk_at "go"
  refine w_newL (show 0 ≤ sizeLine by decide) fun D H2 n2 c2 h2 => ?_
  have c12 := c1.trans c2
  have nD := c1.free n2
  have big : (1000000 : Nat) < sizeLine := by decide
  walk_at "go"
  refine rfld T_P (c12.ins hp0) ?_
  walk_at "go"
  refine for_eT (E := Tme K) (ls := ts) (Pv := fun i σ H' => Ch [] H H' ∧ (∃ ys, H' D = some (.lst ys) ∧ Tms K H' ys (slpL n (ts.take i))) ∧
    ∃ z1 z2, σ = [some (.ref p), some (.str zs), some (.int n), some (.ref D), z1, z2]) hm.len ⟨c12, ⟨[], h2, Els.nil⟩, _, _, rfl⟩ (fun i σ H' _ h => ⟨h.1.sqT hx0, hm.chm h.1⟩) ?_ ?_
  · rintro i t x σ H' ht ⟨c, ⟨ys, hDl, ty⟩, z1, z2, rfl⟩ hx
    obtain ⟨b, rfl, hb⟩ := hx
    have tm := List.mem_of_getElem? ht
    have e1 := degI_le (n := n) tm
    have dl := hdg n hn
    walk_at "go"
    refine w_ixT hb (exAt hn t) ?_
    walk_at "go"
    refine ite_d (fun h => ?_) (fun h => ?_)
    · walk_at "go"
      refine ⟨.inl ⟨rfl, _, .of hDl⟩, ?_⟩
      walk_at "go"
      refine w_I (mul_ok_r (by omega)) ?_
      walk_at "go"
      refine ⟨_, _, n, b, t, rfl, hn, hb, fun v u H5 eu c5 hv => ?_⟩
      walk_at "go"
      refine w_append (c5.at0 hDl) (by have := slpL_len n (ts.take i); rw [ty.len]; rw [List.length_take] at this; omega) fun H6 c6 h6 => ?_
      refine ⟨(c.trans c5).cut nD c6, ⟨_, h6, ?_⟩, _, _, rfl⟩
      rw [take_snoc ht, slpL_snoc, if_pos (by omega)]
      refine ((ty.chm c5).chm c6).snoc ⟨v, rfl, ?_⟩
      have eu : u = setN n (t.c * exN n t) (exN n t - 1) t := eu
      rw [← eu]
      exact c6.sqT (.of hv)
    · refine ⟨c, ⟨ys, hDl, ?_⟩, _, _, rfl⟩
      rw [take_snoc ht, slpL_snoc, if_neg (by omega)]
      exact ty
  · rintro σ H' ⟨c, ⟨ys, hDl, ty⟩, z1, z2, rfl⟩
    rw [List.take_length] at ty
    walk_at "go"
    refine w_tupleL (.of hDl) fun v H4 n4 c4 h4 => ?_
    walk_at "go"
    refine ⟨.ref v, rfl, fun r dr H7 n7 c7 h7 => ?_⟩
    exact q r H7 (c.trans (c4.trans c7)) ⟨dr, v, h7, ys, c7.sqT (.of h4), (ty.chm c4).chm c7⟩
abbrev s_P_primitive : Stmt := inClass (topS 17) 18
theorem sc_P_primitive : FnScope ["self", "content", "term", "c", "i", "j", "k"] ["self"] (defScope s_P_primitive) := ⟨rfl, rfl, rfl, by decide +kernel, rfl, by decide +kernel, by decide +kernel⟩
def sp_P_primitive (K : PySem.W.Frag) (C : Addr) : Sp := fun vs H Q _ => ∃ (p : Addr) (ts : List Tm) (z : Nat), vs = [.ref p] ∧ Po K C H p ts ∧ Nf ts ∧ ts.length < 800000 ∧ Cb z ts ∧ z ≤ 9000 ∧
  ∀ t r H', Ch [] H H' → H' t = some (.tup [.int (cont ts), .ref r]) → Po K C H' r (prmL ts) → Q (.ref t) H'
theorem c_P_primitive {A_Poly A_InvalidPoly A_e : Addr} (T : Txt mg) (T_P : PolyK K mg A_Poly) (UE : ∀ H, SqT K H A_e []) (CI : CalI P w K mg base 3 "Poly" A_Poly [.ref A_e] (sp_P_init K A_Poly A_InvalidPoly)) (C_gcd_of : Cal P w K mg base 1 "gcd_of" (sp_gcd_of K)) (C__of_terms : Cal P w K mg base 5 "_of_terms" (sp__of_terms A_Poly))
    {f : Addr} {fd : FuncData} (F : DefM K A_Poly "primitive" "Poly.primitive" s_P_primitive ["self"] f fd) : CalM P w K mg base 6 A_Poly "primitive" (sp_P_primitive K A_Poly) := by
  refine calM_of F sc_P_primitive (fun vs H Q E h => by obtain ⟨_, _, _, rfl, _⟩ := h; rfl) (fun cdv A outer s H vs Q E hr h => ?_)
  obtain ⟨p, ts, z, rfl, hp, nf, hl, hc, hz, q⟩ := h
  obtain ⟨dx, t0, hp0, xs, hx0, hm⟩ := id hp
  refine ⟨_, (pss_cons (ps_if (pt_cmpR op_eq (pe_callB (k_len (K := K) rfl) (by rfl) T.z_len PySem.boot_len (pa_cons (k_fld (K := K) rfl (pv 0)) pa_nil)) pe_int (nomark _)) (pss_one (ps_ret (pe_tup (pa_cons pe_int (pa_cons (pe_mkD CI hr (by decide) (by rfl) noLet) pa_nil))))) pss_nil)
 (pss_cons (ps_set (i := 1) sc_P_primitive.nd rfl (Or.inr rfl) (pe_cc C_gcd_of hr (by decide) (by rfl) (pa_cons (pe_lc (own := [("term", 2)]) (g := gName 2) rfl sc_P_primitive.nd (k_piT (K := K) rfl (k_fld (K := K) rfl (pv 0))) (blkOk_by (own := [("term", 2)]) (N := ["self", "content", "term", "c", "i", "j", "k"]) (sc := defScope s_P_primitive) (by decide +kernel)) (fun _ _ _ _ _ => pg_name (i := 2) sc_P_primitive.nd rfl (Or.inl rfl)) (fun _ _ _ _ _ => pts_nil) (fun _ _ _ _ _ => (pe_ix (k_ixT (K := K) rfl) (pv 2) pe_int (fun _ _ => rfl)))) pa_nil)))
 (Evl.pss_cut (ps_if (pt_cmpR op_lt (pe_ix (k_ixT (K := K) rfl) (pe_ix (k_ixT (K := K) rfl) (k_fld (K := K) rfl (pv 0)) pe_int (fun _ _ => rfl)) pe_int (fun _ _ => rfl)) pe_int (nomark _)) (pss_one (ps_set (i := 1) sc_P_primitive.nd rfl (Or.inr rfl) (pe_un un_neg (pv 1)))) pss_nil)
 (pss_one (ps_ret (pe_tup (pa_cons (pv 1) (pa_cons (pe_cc C__of_terms hr (by decide) (by rfl) (pa_cons (pe_callTy (k_tuple (K := K) rfl) (by rfl) T.z_tuple (by decide +kernel) (pa_cons (pe_lc (own := [("c", 3), ("i", 4), ("j", 5), ("k", 6)]) (g := gTup K 4 (gCons (gName 3) (gCons (gName 4) (gCons (gName 5) (gCons (gName 6) gNil))))) rfl sc_P_primitive.nd (k_piT (K := K) rfl (k_fld (K := K) rfl (pv 0))) (blkOk_by (own := [("c", 3), ("i", 4), ("j", 5), ("k", 6)]) (N := ["self", "content", "term", "c", "i", "j", "k"]) (sc := defScope s_P_primitive) (by decide +kernel)) (fun _ _ _ _ _ => k_gtup (K := K) rfl rfl (pgs_cons (pg_name (i := 3) sc_P_primitive.nd rfl (Or.inl rfl)) (pgs_cons (pg_name (i := 4) sc_P_primitive.nd rfl (Or.inl rfl)) (pgs_cons (pg_name (i := 5) sc_P_primitive.nd rfl (Or.inl rfl)) (pgs_cons (pg_name (i := 6) sc_P_primitive.nd rfl (Or.inl rfl)) pgs_nil))))) (fun _ _ _ _ _ => pts_nil) (fun _ _ _ _ _ => (pe_tup (pa_cons (pe_op op_fdivG (pv 3) (pv 1)) (pa_cons (pv 4) (pa_cons (pv 5) (pa_cons (pv 6) pa_nil))))))) pa_nil)) pa_nil)) pa_nil)))))))), ?_⟩
  refine w_start (σ := [some _, none, none, none, none, none, none]) rfl ?_
  walk_at "go"
  refine rfld T_P hp0 ?_
  walk_at "go"
  rw [hm.len]
  refine ite_d (fun h => ?_) (fun h => ?_)
  · have e : ts = [] := List.eq_nil_of_length_eq_zero (by omega)
    subst e
    walk_at "go"
    refine mk_poly (a := A_e) (z := true) (UE H) Els.nil (by decide) (fun _ h => nomatch h) fun r dr t1 H1 us n1 ce np c1 hr1 ht => ?_
    walk_at "go"
    refine w_newT (show 2 ≤ sizeLine by decide) fun v H2 n2 c2 h2 => ?_
    have e2 := nf_nil ce n1
    subst e2
    exact q v r H2 (c1.trans c2) h2 ⟨dr, t1, c2.ins hr1, ht.ch c2⟩
  have ne : ts ≠ [] := fun z => h (by rw [z]; rfl)
  obtain ⟨c0, cd⟩ := cont_ne ne nf
  walk_at "go"
  refine rfld T_P hp0 ?_
  walk_at "go"
  refine lc_e ts (walk_tup (K := K) (a := t0) (xs := xs)) hm.len.symm (fun _ => true) (fun t v H => v = .int t.c) (fun _ _ _ _ _ _ h => h) (fun H' c => c.sqT hx0) (by rw [hm.len]; omega) ?_ ?_
  · rintro k t y H5 H6 ht c5 ⟨rfl, hx⟩ Nx A1 hN hA
    obtain ⟨v, e1, b1, rfl, hb1⟩ := hm.at_ k t ht
    rw [hx] at e1
    cases e1
    have hb1 := c5.sqT hb1
    walk_at "go"
    refine ⟨rfl, ?_⟩
    walk_at "go"
    exact hA _ H6 .refl rfl rfl
  · intro D H5 out nD c5 hD el
    rw [filter_yes] at el
    have eo : out = ivs (ts.map Tm.c) := by
      rw [ivs, List.map_map]
      have := els_map (f := fun v => v) (g := fun t : Tm => V.int t.c) el (fun _ _ _ h => h)
      rw [List.map_id'] at this
      exact this
    subst eo
    walk_at "go"
    refine ⟨D, _, rfl, hD, ?_⟩
    walk_at "go"
    obtain ⟨u, ts', rfl⟩ : ∃ u ts', ts = u :: ts' := by
      cases ts with
      | nil => exact absurd rfl ne
      | cons u ts' => exact ⟨u, ts', rfl⟩
    refine w_cut (M := fun σ' H' => H' = H5 ∧ σ' = [some (.ref p), some (.int (cont (u :: ts'))), none, none, none, none, none]) ?_ ?_
    · walk_at "go"
      refine rfld T_P (c5.ins hp0) ?_
      walk_at "go"
      obtain ⟨v, e1, b, rfl, hb⟩ := hm.at_ 0 u rfl
      refine w_ixT (c5.sqT hx0) (atI_nat (j := 0) e1) ?_
      walk_at "go"
      refine ite_d (fun h => ?_) (fun h => ?_)
      · walk_at "go"
        refine ⟨rfl, ?_⟩
        rw [cont_cons, if_pos h]
        rfl
      · walk_at "go"
        refine ⟨rfl, ?_⟩
        rw [cont_cons, if_neg h]
        rfl
    rintro σ' H' ⟨rfl, rfl⟩
    walk_at "go"
    refine rfld T_P (c5.ins hp0) ?_
    walk_at "go"
    have cb : (cont (u :: ts')).natAbs < 2 ^ z := by
      have z1 := nf.nz u List.mem_cons_self
      exact Nat.lt_of_le_of_lt (Nat.le_of_dvd (by omega) (cd u List.mem_cons_self)) (hc u List.mem_cons_self)
    refine lc_e (u :: ts') (walk_tup (K := K) (a := t0) (xs := xs)) hm.len.symm (fun _ => true) (fun t v H => Tme K ⟨t.c.fdiv (cont (u :: ts')), t.i, t.j, t.k⟩ v H) (fun _ _ _ _ _ c h => h.ch c) (fun H' c => (c5.trans c).sqT hx0) (by rw [hm.len]; omega) ?_ ?_
    · rintro k t y H6 H7 ht c6 ⟨rfl, hx⟩ Nx A1 hN hA
      obtain ⟨v, e1, b1, rfl, hb1⟩ := hm.at_ k t ht
      rw [hx] at e1
      cases e1
      have hb1 := (c5.trans c6).sqT hb1
      walk_at "go"
      refine ⟨rfl, ?_⟩
      walk_at "go"
      refine w_I (div_ok c0 cb hz) ?_
      walk_at "go"
      refine w_newT (show 4 ≤ sizeLine by decide) fun b3 H8 n8 c8 h8 => ?_
      exact hA _ H8 c8 rfl ⟨b3, rfl, .of h8⟩
    · intro D2 H6 out nD2 c6 hD2 el
      rw [filter_yes] at el
      walk_at "go"
      refine w_tupleL (.of hD2) fun v H7 n7 c7 h7 => ?_
      walk_at "go"
      refine ⟨.ref v, rfl, fun r dr H8 n8 c8 h8 => ?_⟩
      walk_at "go"
      refine w_newT (show 2 ≤ sizeLine by decide) fun v2 H9 n9 c9 h9 => ?_
      have em : Tms K H6 out (prmL (u :: ts')) := el.map (F := Tme K) (f := fun t : Tm => ⟨t.c.fdiv (cont (u :: ts')), t.i, t.j, t.k⟩) fun _ _ _ h => h
      exact q v2 r H9 (c5.trans (c6.trans (c7.trans (c8.trans c9)))) h9 ⟨dr, v, c9.ins h8, out, c9.sqT (c8.sqT (.of h7)), ((em.chm c7).chm c8).chm c9⟩
end
end My
namespace My
open PySem PySem.Spec PyProof.Rows L2
open SX (S S_cat S_len S_tl S_inj)
open TL (numL tl joinL)
open PySem.NumText (AllDigits digitsVal)
theorem join_S (a : List Nat) (ps : List (List Nat)) : Txt.join (S a) (ps.map S) = S (joinL a ps) := by
  rw [TL.join_eq]
  apply TL.ext_tl
  rw [TL.tl_join, List.map_map]
  have : ps.map (tl ∘ S) = ps := List.map_id'' (fun _ => by first | rfl | simp [tl, S]) ps
  rw [this]
theorem joinL_nil (ps : List (List Nat)) : joinL [] ps = ps.flatten := by
  induction ps with
  | nil => rfl
  | cons p ps ih =>
    cases ps with
    | nil => simp [joinL]
    | cons q r =>
      show p ++ ([] ++ joinL [] (q :: r)) = _
      rw [ih, List.nil_append]
      rfl
theorem usN_S {n : Nat} (h : n < 3) : usN n = S [120 + n] := by
  obtain rfl | rfl | rfl : n = 0 ∨ n = 1 ∨ n = 2 := by omega
  all_goals decide +kernel
/-- a power in a text -/
def pwF (n : Nat) (p : Int) : List (List Nat) := if p = 1 then [[n]] else if 1 < p then [n :: 94 :: intL p] else []
def facL (t : Tm) : List (List Nat) := (if t.c.natAbs ≠ 1 ∨ t.i + t.j + t.k = 0 then [numL t.c.natAbs] else []) ++ pwF 120 t.i ++ pwF 121 t.j ++ pwF 122 t.k
def tmL (t : Tm) : List Nat := joinL [42] (facL t)
def sgF (first : Bool) (c : Int) : List Nat := if first = true then (if c < 0 then [45] else []) else if c < 0 then [32, 45, 32] else [32, 43, 32]
/-- the words of a text -/
def wdL : Bool → List Tm → List (List Nat)
  | _, [] => []
  | b, t :: ts => sgF b t.c :: tmL t :: wdL false ts
def txL (ts : List Tm) : List Nat := if ts = [] then [48] else (wdL true ts).flatten
theorem wdL_snoc (b : Bool) (ts : List Tm) (t : Tm) : wdL b (ts ++ [t]) = wdL b ts ++ [sgF (b && ts.isEmpty) t.c, tmL t] := by
  induction ts generalizing b with
  | nil => cases b <;> rfl
  | cons u ts ih =>
    rw [List.cons_append]
    show sgF b u.c :: tmL u :: wdL false (ts ++ [t]) = _
    rw [ih]
    cases b <;> rfl
theorem pwF_len {n : Nat} {p : Int} (h : p ≤ 90000) : ((pwF n p).map List.length).sum ≤ 10 ∧ (pwF n p).length ≤ 1 := by
  unfold pwF
  split
  · exact ⟨show 1 + 0 ≤ 10 by decide, Nat.le_refl _⟩
  · split
    · have := intL_len (n := p) (k := 5) (by decide) (by omega)
      refine ⟨?_, Nat.le_refl _⟩
      show (intL p).length + 1 + 1 + 0 ≤ 10
      omega
    · exact ⟨Nat.zero_le _, Nat.zero_le _⟩
structure SmT (t : Tm) : Prop where
  c : t.c.natAbs < 2 ^ 1900
  e : 0 ≤ t.i ∧ 0 ≤ t.j ∧ 0 ≤ t.k
  i : t.i ≤ 90000
  j : t.j ≤ 90000
  k : t.k ≤ 90000
theorem facL_len {t : Tm} (h : SmT t) : ((facL t).map List.length).sum ≤ 640 ∧ (facL t).length ≤ 4 := by
  have a := pwF_len (n := 120) h.i
  have b := pwF_len (n := 121) h.j
  have c := pwF_len (n := 122) h.k
  have d := numL_len_pow (n := t.c.natAbs) (k := 600) (by decide) (Nat.lt_of_lt_of_le h.c (by decide +kernel))
  unfold facL
  rw [List.map_append, List.map_append, List.map_append, List.sum_append, List.sum_append, List.sum_append, List.length_append, List.length_append, List.length_append]
  split
  · constructor
    · show (numL t.c.natAbs).length + 0 + _ + _ + _ ≤ 640
      omega
    · show 1 + _ + _ + _ ≤ 4
      omega
  · constructor
    · show 0 + _ + _ + _ ≤ 640
      omega
    · show 0 + _ + _ + _ ≤ 4
      omega
theorem joinL_len (a : List Nat) : ∀ ps : List (List Nat), (joinL a ps).length ≤ (ps.map List.length).sum + ps.length * a.length
  | [] => Nat.zero_le _
  | [p] => by
    show p.length ≤ p.length + 0 + _
    omega
  | p :: q :: r => by
    have ih := joinL_len a (q :: r)
    show (p ++ (a ++ joinL a (q :: r))).length ≤ p.length + ((q :: r).map List.length).sum + (q :: r).length.succ * a.length
    rw [List.length_append, List.length_append, Nat.succ_mul]
    omega
theorem tmL_len {t : Tm} (h : SmT t) : (tmL t).length ≤ 700 := by
  have a := joinL_len [42] (facL t)
  have b := facL_len h
  have e : (facL t).length * ([42] : List Nat).length ≤ 4 := by
    show (facL t).length * 1 ≤ 4
    omega
  unfold tmL
  omega
theorem wdL_len {b : Bool} {ts : List Tm} (h : ∀ t ∈ ts, SmT t) : ((wdL b ts).map List.length).sum ≤ 710 * ts.length ∧ (wdL b ts).length = 2 * ts.length := by
  induction ts generalizing b with
  | nil => exact ⟨Nat.zero_le _, rfl⟩
  | cons t ts ih =>
    have ih := ih (b := false) fun u hu => h u (List.mem_cons_of_mem _ hu)
    have l := tmL_len (h t List.mem_cons_self)
    have s : (sgF b t.c).length ≤ 3 := by
      unfold sgF
      split <;> split <;> decide
    constructor
    · show (sgF b t.c).length + ((tmL t).length + ((wdL false ts).map List.length).sum) ≤ 710 * (ts.length + 1)
      omega
    · show (wdL false ts).length + 1 + 1 = 2 * (ts.length + 1)
      omega
theorem lit_star : (Str.ofString "*") = S [42] := by decide +kernel
theorem lit_hat : (Str.ofString "^") = S [94] := by decide +kernel
theorem lit_sm : (Str.ofString " - ") = S [32, 45, 32] := by decide +kernel
theorem lit_sp : (Str.ofString " + ") = S [32, 43, 32] := by decide +kernel
theorem empty_S : Str.empty = S [] := by decide +kernel
abbrev svs (ps : List (List Nat)) : List V := ps.map fun p => V.str (S p)
theorem svs_map (ps : List (List Nat)) : svs ps = (ps.map S).map V.str := by
  rw [List.map_map]
  first | done | rfl
theorem sum_S (ps : List (List Nat)) : ((ps.map S).map (·.length)).sum = (ps.map List.length).sum := by
  rw [List.map_map, show ps.map ((·.length) ∘ S) = ps.map List.length from List.map_congr_left fun p _ => S_len p]
section
variable {P : Program} {w : World} {K : PySem.W.Frag} {mg : Str → Option Value} {base : Heap}
theorem w_joinS {H : Hp} {Q : VK} {p : Addr} {a : List Nat} {ps : List (List Nat)} (h : SqL K H p (svs ps)) (hz : (ps.map List.length).sum + ps.length * a.length ≤ 16777216) (q : Q (.str (S (joinL a ps))) H) : rJoin K (.str (S a)) [.ref p] H Q :=
  w_join (ys := ps.map S) (by rw [← svs_map]; exact h) (by rw [sum_S, List.length_map, S_len]; exact hz) (by rw [join_S]; exact q)
abbrev s__term_text : Stmt := topS 27
theorem sc__term_text : FnScope ["size", "powers", "factors", "name", "power"] ["size", "powers"] (defScope s__term_text) := ⟨rfl, rfl, rfl, by decide +kernel, rfl, by decide +kernel, by decide +kernel⟩
def sp__term_text (K : PySem.W.Frag) : Sp := fun vs H Q _ => ∃ (a : Addr) (t : Tm), vs = [.int t.c.natAbs, .ref a] ∧ SqT K H a [.int t.i, .int t.j, .int t.k] ∧ SmT t ∧ ∀ H', Ch [] H H' → Q (.str (S (tmL t))) H'
theorem c__term_text {A_UNKNOWNS : Addr} (T : Txt mg) (G_UNKNOWNS : mg "UNKNOWNS" = some (.ref A_UNKNOWNS)) (UU : ∀ H, SqT K H A_UNKNOWNS (US.map V.str)) (C_write_fraction : Cal P w K mg base 4 "write_fraction" (sp_write_fraction K)) {f : Addr} {fd : FuncData} (F : DefF K mg "_term_text" s__term_text ["size", "powers"] f fd) :
    Cal P w K mg base 5 "_term_text" (sp__term_text K) := by
  refine cal_of F sc__term_text (fun vs H Q E h => by obtain ⟨_, _, rfl, _⟩ := h; rfl) (fun cdv A outer s H vs Q E hr h => ?_)
  obtain ⟨a, t, rfl, ha, hs, q⟩ := h
  obtain ⟨x0, x1, x2⟩ := hs.e
  refine ⟨_, (pss_cons (ps_set (i := 2) sc__term_text.nd rfl (Or.inl rfl) (pe_lst pa_nil))
 (Evl.pss_cut (ps_if (PW.pt (pw_or (pt_cmpR op_ne (pv 0) pe_int (nomark _)) (pw_or1 (pt_cmpR op_eq (pe_callB (k_maxT (K := K) rfl rfl) (by rfl) T.z_max (by decide +kernel) (pa_cons (pv 1) pa_nil)) pe_int (nomark _))))) (pss_one (ps_expr (pe_bm PySem.F.plainAttrs_list PySem.F.slot_list_append PySem.F.type_list_append mt_append (pv 2) (pa_cons (pe_cc C_write_fraction hr (by decide) (by rfl) (pa_cons (pe_tup (pa_cons (pv 0) (pa_cons pe_int pa_nil))) pa_nil)) pa_nil)))) pss_nil)
 (pss_cons (ps_for PassesOwn.never rfl (k_zipA (K := K) rfl (by rfl) T.z_zip (pa_cons (pe_glob (v := .ref A_UNKNOWNS) (by rfl) G_UNKNOWNS rfl) (pa_cons (pv 1) pa_nil))) (k_gtup (K := K) (n := 2) rfl rfl (pgs_cons (pg_name (i := 3) sc__term_text.nd rfl (Or.inl rfl)) (pgs_cons (pg_name (i := 4) sc__term_text.nd rfl (Or.inl rfl)) pgs_nil))) (Evl.pss_cut (ps_if (pt_cmpR op_eq (pv 4) pe_int (nomark _)) (pss_one (ps_expr (pe_bm PySem.F.plainAttrs_list PySem.F.slot_list_append PySem.F.type_list_append mt_append (pv 2) (pa_cons (pv 3) pa_nil)))) pss_nil)
 (pss_one (ps_if (pt_cmpR op_gt (pv 4) pe_int (nomark _)) (pss_one (ps_expr (pe_bm PySem.F.plainAttrs_list PySem.F.slot_list_append PySem.F.type_list_append mt_append (pv 2) (pa_cons (pe_joined (pj_cons (pe_fmt (pv 3)) (pj_cons pe_str (pj_cons (pe_fmt (pv 4)) pj_nil)))) pa_nil)))) pss_nil))))
 (pss_one (ps_ret (pe_bm PySem.F.plainAttrs_str PySem.F.slot_str_join PySem.F.type_str_join (k_join (K := K) rfl) pe_str (pa_cons (pv 2) pa_nil))))))), ?_⟩
  refine w_start (σ := [some _, some _, none, none, none]) rfl ?_
  walk_at "go"
  refine w_newL (show 0 ≤ sizeLine by decide) fun l H1 n1 c1 h1 => ?_
  walk_at "go"
  have h4 : (10 : Nat) < sizeLine := by decide
  have fl := facL_len hs
  refine w_cut (M := fun σ' H' => Ch [] H H' ∧ H' l = some (.lst (svs (if t.c.natAbs ≠ 1 ∨ t.i + t.j + t.k = 0 then [numL t.c.natAbs] else []))) ∧ ∃ z1 z2, σ' = [some (.int t.c.natAbs), some (.ref a), some (.ref l), z1, z2]) ?_ ?_
  · have yes : t.c.natAbs ≠ 1 ∨ t.i + t.j + t.k = 0 → ∀ H2, Ch [] H H2 → H2 l = some (.lst []) → NewT [.int t.c.natAbs, .int 1] H2 fun v H3 => sp_write_fraction K [v] H3 (fun x H4 => rAppend (.ref l) [x] H4 fun _ H5 => Ch [] H H5 ∧ H5 l = some (.lst (svs (if t.c.natAbs ≠ 1 ∨ t.i + t.j + t.k = 0 then [numL t.c.natAbs] else [])))) E0 := fun hy H2 c2 h2 => by
      refine w_newT (show 2 ≤ sizeLine by decide) fun b H3 n3 c3 h3 => ?_
      refine ⟨b, t.c.natAbs, 1, rfl, .of h3, by rw [Int.natAbs_natCast]; exact hs.c, by decide, ?_⟩
      refine w_append (c3.at0 h2) (show 0 < sizeLine by decide) fun H5 c5 h5 => ?_
      refine ⟨(c2.trans c3).cut n1 c5, ?_⟩
      rw [h5, if_pos hy]
      have : fracL (t.c.natAbs : Int) 1 = numL t.c.natAbs := by
        unfold fracL
        rw [if_pos rfl, intL_pos (by omega)]
        congr 1
      rw [this]
      rfl
    have no : ¬ (t.c.natAbs ≠ 1 ∨ t.i + t.j + t.k = 0) → H1 l = some (.lst (svs (if t.c.natAbs ≠ 1 ∨ t.i + t.j + t.k = 0 then [numL t.c.natAbs] else []))) := fun hy => by
      rw [if_neg hy]
      exact h1
    walk_at "go"
    refine ite_nd (fun h => ?_) (fun h => ?_)
    · walk_at "go"
      refine ⟨.inl ⟨rfl, _, .of h1⟩, ?_⟩
      walk_at "go"
      refine w_newT (show 2 ≤ sizeLine by decide) fun b H3 n3 c3 h3 => ?_
      walk_at "go"
      refine ⟨b, t.c.natAbs, 1, rfl, .of h3, by rw [Int.natAbs_natCast]; exact hs.c, by decide, ?_⟩
      walk_at "go"
      refine w_append (c3.at0 h1) (show 0 < sizeLine by decide) fun H5 c5 h5 => ?_
      refine ⟨(c1.trans c3).cut n1 c5, ?_, _, _, rfl⟩
      rw [h5, if_pos (.inl (by omega)), show fracL (t.c.natAbs : Int) 1 = numL t.c.natAbs from by unfold fracL; rw [if_pos rfl, intL_pos (by omega)]; congr 1]
      rfl
    · walk_at "go"
      refine w_maxT (Ch.sqT c1 ha) fun m hm a1 a2 a3 => ?_
      walk_at "go"
      refine ite_d (fun h0 => ?_) (fun h0 => ?_)
      · walk_at "go"
        refine ⟨.inl ⟨rfl, _, .of h1⟩, ?_⟩
        walk_at "go"
        refine w_newT (show 2 ≤ sizeLine by decide) fun b H3 n3 c3 h3 => ?_
        walk_at "go"
        refine ⟨b, t.c.natAbs, 1, rfl, .of h3, by rw [Int.natAbs_natCast]; exact hs.c, by decide, ?_⟩
        walk_at "go"
        refine w_append (c3.at0 h1) (show 0 < sizeLine by decide) fun H5 c5 h5 => ?_
        refine ⟨(c1.trans c3).cut n1 c5, ?_, _, _, rfl⟩
        rw [h5, if_pos (.inr (by omega)), show fracL (t.c.natAbs : Int) 1 = numL t.c.natAbs from by unfold fracL; rw [if_pos rfl, intL_pos (by omega)]; congr 1]
        rfl
      · walk_at "go"
        refine ⟨c1, no (by omega), _, _, rfl⟩
  rintro σ' H2 ⟨c2, h2, z1, z2, rfl⟩
  generalize hF : (if t.c.natAbs ≠ 1 ∨ t.i + t.j + t.k = 0 then [numL t.c.natAbs] else []) = F0 at h2
  walk_at "go"
  refine w_iZr (UU H2) (c2.sqT ha) ?_
  have pwE : ∀ k, k < 3 → exN k t ≤ 90000 := fun k hk => by
    obtain rfl | rfl | rfl : k = 0 ∨ k = 1 ∨ k = 2 := by omega
    · exact hs.i
    · exact hs.j
    · exact hs.k
  have F0l : F0.length ≤ 1 := by rw [← hF]; split <;> simp
  have fk : ∀ k, ((List.range k).flatMap fun n => pwF (120 + n) (exN n t)).length ≤ 1 * k ∨ 3 < k := fun k => by
    rcases Nat.lt_or_ge 3 k with h | h
    · exact .inr h
    · refine .inl ?_
      induction k with
      | zero => exact Nat.le_refl _
      | succ k ih =>
        rw [List.range_succ, List.flatMap_append, List.length_append]
        have a := ih (by omega)
        have b := (pwF_len (n := 120 + k) (pwE k (by omega))).2
        simp only [List.flatMap_cons, List.flatMap_nil, List.append_nil]
        omega
  refine for_w (walk_zipT (K := K) (a := A_UNKNOWNS) (b := a) (n := 3) (xs := US.map V.str) (ys := [.int t.i, .int t.j, .int t.k]) rfl) (fun i σ H' => Ch [] H H' ∧ H' l = some (.lst (svs (F0 ++ (List.range i).flatMap fun n => pwF (120 + n) (exN n t)))) ∧ ∃ z1 z2, σ = [some (.int t.c.natAbs), some (.ref a), some (.ref l), z1, z2])
    ⟨c2, by simpa using h2, _, _, rfl⟩ (fun i σ H' _ h => ⟨UU H', h.1.sqT ha⟩) ?_ ?_
  · rintro k x σ H3 H4 hk ⟨c, hl, z1, z2, rfl⟩ hy
    obtain ⟨b, x1, x2, rfl, nb, rfl, e1, e2⟩ := hy
    have e1 : (US.map V.str)[k]? = some x1 := e1
    have e2 : ([.int t.i, .int t.j, .int t.k] : List V)[k]? = some x2 := e2
    rw [List.getElem?_map, us_at hk] at e1
    cases e1
    have e3 : x2 = .int (exN k t) := by
      obtain rfl | rfl | rfl : k = 0 ∨ k = 1 ∨ k = 2 := by omega
      all_goals cases e2; rfl
    subst e3
    have cb : Ch [] H3 (L2.upd H3 b (.tup [.str (usN k), .int (exN k t)])) := Ch.new nb
    have hbb : L2.upd H3 b (.tup [.str (usN k), .int (exN k t)]) b = some (.tup [.str (usN k), .int (exN k t)]) := upd_same
    generalize L2.upd H3 b (.tup [.str (usN k), .int (exN k t)]) = H4 at cb hbb
    have hl4 := cb.at0 hl
    have c4 := c.trans cb
    have len4 : (F0 ++ (List.range k).flatMap fun n => pwF (120 + n) (exN n t)).length ≤ 4 := by
      rw [List.length_append]
      have := fk k
      omega
    have nx : (F0 ++ (List.range (k + 1)).flatMap fun n => pwF (120 + n) (exN n t)) = (F0 ++ (List.range k).flatMap fun n => pwF (120 + n) (exN n t)) ++ pwF (120 + k) (exN k t) := by
      rw [List.range_succ, List.flatMap_append, List.append_assoc]
      simp
    rw [nx]
    generalize (F0 ++ (List.range k).flatMap fun n => pwF (120 + n) (exN n t)) = F1 at hl4 len4 ⊢
    walk_at "go"
    refine w_cut (M := fun σ' H' => Ch [] H H' ∧ H' l = some (.lst (svs (F1 ++ if exN k t = 1 then [[120 + k]] else []))) ∧ σ' = [some (.int t.c.natAbs), some (.ref a), some (.ref l), some (.str (usN k)), some (.int (exN k t))]) ?_ ?_
    · walk_at "go"
      refine ite_d (fun h => ?_) (fun h => ?_)
      · walk_at "go"
        refine ⟨.inl ⟨rfl, _, .of hl4⟩, ?_⟩
        walk_at "go"
        refine w_append hl4 (by rw [List.length_map]; omega) fun H5 c5 h5 => ?_
        refine ⟨c4.cut n1 c5, ?_, rfl⟩
        rw [h5, if_pos h, usN_S hk]
        unfold svs
        rw [List.map_append]
        rfl
      · walk_at "go"
        refine ⟨c4, ?_, rfl⟩
        rw [if_neg h, List.append_nil]
        exact hl4
    rintro σ' H5 ⟨c5, h5, rfl⟩
    walk_at "go"
    have pk := pwE k hk
    refine ite_d (fun h => ?_) (fun h => ?_)
    · rw [if_neg (by omega), List.append_nil] at h5
      walk_at "go"
      refine ⟨.inl ⟨rfl, _, .of h5⟩, ?_⟩
      have il := intL_len (n := exN k t) (k := 5) (by decide) (by omega)
      walk_at "go"
      rw [usN_S hk]
      refine w_fmt ?_
      walk_at "go"
      refine .inl ⟨_, rfl, by rw [S_len]; exact Nat.le_trans (show 1 ≤ 10 by decide) (Nat.le_of_lt h4), ?_⟩
      have e0 : Str.empty ++ S [120 + k] = S [120 + k] := by rw [empty_S, S_cat]; rfl
      have z1 : (20 : Nat) ≤ sizeLine := by decide
      have lg : (exN k t).natAbs.log2 < 1920 := Nat.lt_trans (PySem.Flt.log2_lt_of (show 0 < 20 by decide) (show (exN k t).natAbs < 2 ^ 20 by omega)) (by decide)
      refine ⟨_, rfl, by rw [e0, S_len]; exact Nat.le_trans (show 1 ≤ 20 by decide) z1, ?_⟩
      rw [e0]
      refine ⟨_, rfl, by rw [lit_hat, S_cat, S_len]; exact Nat.le_trans (show 2 ≤ 20 by decide) z1, ?_⟩
      rw [lit_hat, S_cat]
      refine ⟨.int (exN k t), rfl, .inr ⟨exN k t, rfl, lg, ?_⟩⟩
      refine ⟨_, rfl, ?_, ?_⟩
      · rw [str_int, S_cat, S_len, List.length_append]
        simp only [List.length_append, List.length_cons, List.length_nil]
        omega
      rw [str_int, S_cat]
      unfold tJs
      walk_at "go"
      refine w_append h5 (by rw [List.length_map]; omega) fun H6 c6 h6 => ?_
      refine ⟨c5.cut n1 c6, ?_, _, _, rfl⟩
      rw [h6]
      unfold pwF svs
      rw [if_neg (by omega), if_pos h, List.map_append]
      rfl
    · refine ⟨c5, ?_, _, _, rfl⟩
      rw [h5]
      unfold pwF
      by_cases h1 : exN k t = 1
      · rw [if_pos h1, if_pos h1]
      · rw [if_neg h1, if_neg h1, if_neg (by omega)]
  · rintro σ H' ⟨c, hl, z1, z2, rfl⟩
    have e : F0 ++ ((List.range 3).flatMap fun n => pwF (120 + n) (exN n t)) = facL t := by
      unfold facL
      rw [hF]
      show F0 ++ (pwF 120 t.i ++ (pwF 121 t.j ++ (pwF 122 t.k ++ []))) = _
      rw [List.append_nil, List.append_assoc, List.append_assoc]
    rw [e] at hl
    walk_at "go"
    rw [lit_star]
    refine w_joinS (.of hl) (by show _ + _ * 1 ≤ _; omega) ?_
    exact q H' c
abbrev s__text : Stmt := topS 28
theorem sc__text : FnScope ["terms", "words", "at", "c", "i", "j", "k"] ["terms"] (defScope s__text) := ⟨rfl, rfl, rfl, by decide +kernel, rfl, by decide +kernel, by decide +kernel⟩
def sp__text (K : PySem.W.Frag) : Sp := fun vs H Q _ => ∃ (a : Addr) (xs : List V) (ts : List Tm), vs = [.ref a] ∧ SqT K H a xs ∧ Tms K H xs ts ∧ (∀ t ∈ ts, SmT t) ∧ ts.length ≤ 10000 ∧ ∀ H', Ch [] H H' → Q (.str (S (txL ts))) H'
theorem c__text (T : Txt mg) (C__term_text : Cal P w K mg base 5 "_term_text" (sp__term_text K)) {f : Addr} {fd : FuncData} (F : DefF K mg "_text" s__text ["terms"] f fd) : Cal P w K mg base 6 "_text" (sp__text K) := by
  refine cal_of F sc__text (fun vs H Q E h => by obtain ⟨_, _, _, rfl, _⟩ := h; rfl) (fun cdv A outer s H vs Q E hr h => ?_)
  obtain ⟨a, xs, ts, rfl, ha, hm, hs, hl, q⟩ := h
  refine ⟨_, (pss_cons (ps_if (pt_cmpR op_eq (pe_callB (k_len (K := K) rfl) (by rfl) T.z_len PySem.boot_len (pa_cons (pv 0) pa_nil)) pe_int (nomark _)) (pss_one (ps_ret pe_str)) pss_nil)
 (pss_cons (ps_set (i := 1) sc__text.nd rfl (Or.inl rfl) (pe_lst pa_nil))
 (pss_cons (ps_for PassesOwn.never rfl (k_piE (K := K) rfl (by rfl) T.z_enumerate (pa_cons (pv 0) pa_nil)) (k_gtup (K := K) (n := 2) rfl rfl (pgs_cons (pg_name (i := 2) sc__text.nd rfl (Or.inl rfl)) (pgs_cons (k_gtup (K := K) (n := 4) rfl rfl (pgs_cons (pg_name (i := 3) sc__text.nd rfl (Or.inl rfl)) (pgs_cons (pg_name (i := 4) sc__text.nd rfl (Or.inl rfl)) (pgs_cons (pg_name (i := 5) sc__text.nd rfl (Or.inl rfl)) (pgs_cons (pg_name (i := 6) sc__text.nd rfl (Or.inl rfl)) pgs_nil))))) pgs_nil))) (Evl.pss_cut (ps_if (pt_cmpR op_eq (pv 2) pe_int (nomark _)) (pss_one (ps_expr (pe_bm PySem.F.plainAttrs_list PySem.F.slot_list_append PySem.F.type_list_append mt_append (pv 1) (pa_cons (pe_ifExp (pt_cmpR op_lt (pv 3) pe_int (nomark _)) pe_str pe_str) pa_nil)))) (pss_one (ps_expr (pe_bm PySem.F.plainAttrs_list PySem.F.slot_list_append PySem.F.type_list_append mt_append (pv 1) (pa_cons (pe_ifExp (pt_cmpR op_lt (pv 3) pe_int (nomark _)) pe_str pe_str) pa_nil)))))
 (pss_one (ps_expr (pe_bm PySem.F.plainAttrs_list PySem.F.slot_list_append PySem.F.type_list_append mt_append (pv 1) (pa_cons (pe_cc C__term_text hr (by decide) (by rfl) (pa_cons (pe_callB cb_abs (by rfl) T.z_abs (by decide +kernel) (pa_cons (pv 3) pa_nil)) (pa_cons (pe_tup (pa_cons (pv 4) (pa_cons (pv 5) (pa_cons (pv 6) pa_nil)))) pa_nil))) pa_nil))))))
 (pss_one (ps_ret (pe_bm PySem.F.plainAttrs_str PySem.F.slot_str_join PySem.F.type_str_join (k_join (K := K) rfl) pe_str (pa_cons (pv 1) pa_nil))))))), ?_⟩
  refine w_start (σ := [some _, none, none, none, none, none, none]) rfl ?_
  walk_at "go"
  rw [hm.len]
  refine ite_d (fun h => ?_) (fun h => ?_)
  · have e : ts = [] := List.eq_nil_of_length_eq_zero (by omega)
    subst e
    walk_at "go"
    rw [lit_zero]
    exact q H .refl
  walk_at "go"
  refine w_newL (show 0 ≤ sizeLine by decide) fun l H1 n1 c1 h1 => ?_
  walk_at "go"
  have big : (30000 : Nat) < sizeLine := by decide
  refine w_iEr (c1.sqT ha) ?_
  refine for_w (walk_enumT (xs := xs)) (fun i σ H' => Ch [] H H' ∧ H' l = some (.lst (svs (wdL true (ts.take i)))) ∧ ∃ z1 z2 z3 z4 z5, σ = [some (.ref a), some (.ref l), z1, z2, z3, z4, z5]) ⟨c1, h1, _, _, _, _, _, rfl⟩ (fun i σ H' _ h => h.1.sqT ha) ?_ ?_
  · rintro i x σ H2 H3 hi ⟨c, hl2, z1, z2, z3, z4, z5, rfl⟩ hy
    obtain ⟨b, x1, x2, rfl, nb, rfl, e1, e2⟩ := hy
    have e2 : xs[i]? = some x2 := e2
    cases e1
    obtain ⟨t, ht, b2, rfl, hb2⟩ := hm.get e2
    have cb : Ch [] H2 (L2.upd H2 b (.tup [.int (i : Nat), .ref b2])) := Ch.new nb
    have hbb : L2.upd H2 b (.tup [.int (i : Nat), .ref b2]) b = some (.tup [.int (i : Nat), .ref b2]) := upd_same
    generalize L2.upd H2 b (.tup [.int (i : Nat), .ref b2]) = H3 at cb hbb
    have c3 := c.trans cb
    have hb3 := c3.sqT hb2
    have hl3 := cb.at0 hl2
    have tm := List.mem_of_getElem? ht
    have wl := wdL_len (b := true) (ts := ts.take i) fun t m => hs t (List.mem_of_mem_take m)
    rw [List.length_take] at wl
    have wl2 : (wdL true (ts.take i)).length ≤ 20000 := by omega
    have nx := wdL_snoc true (ts.take i) t
    rw [← take_snoc ht] at nx
    have eb : (true && (ts.take i).isEmpty) = decide (i = 0) := by
      rw [Bool.true_and]
      have := lt_of_get ht
      cases i with
      | zero => rfl
      | succ i =>
        cases ts with
        | nil => cases ht
        | cons u us => rfl
    rw [eb] at nx
    rw [nx]
    generalize wdL true (ts.take i) = W at hl3 wl2 ⊢
    walk_at "go"
    refine w_cut (M := fun σ' H' => Ch [] H H' ∧ H' l = some (.lst (svs (W ++ [sgF (decide (i = 0)) t.c]))) ∧ σ' = [some (.ref a), some (.ref l), some (.int (i : Nat)), some (.int t.c), some (.int t.i), some (.int t.j), some (.int t.k)]) ?_ ?_
    · have fin : ∀ (p : Str) (r : List Nat), p = S r → sgF (decide (i = 0)) t.c = r → rAppend (.ref l) [.str p] H3 fun _ H' => Ch [] H H' ∧ H' l = some (.lst (svs (W ++ [sgF (decide (i = 0)) t.c]))) ∧ [some (V.ref a), some (.ref l), some (.int (i : Nat)), some (.int t.c), some (.int t.i), some (.int t.j), some (.int t.k)] = [some (V.ref a), some (.ref l), some (.int (i : Nat)), some (.int t.c), some (.int t.i), some (.int t.j), some (.int t.k)] := fun p r ep er => by
        refine w_append hl3 (by rw [List.length_map]; omega) fun H5 c5 h5 => ⟨c3.cut n1 c5, ?_, rfl⟩
        rw [h5, ep, er]
        unfold svs
        rw [List.map_append]
        rfl
      walk_at "go"
      refine ite_d (fun h0 => ?_) (fun h0 => ?_)
      · have h0 : i = 0 := by omega
        walk_at "go"
        refine ⟨.inl ⟨rfl, _, .of hl3⟩, ?_⟩
        walk_at "go"
        refine ite_d (fun h2 => ?_) (fun h2 => ?_)
        · walk_at "go"
          exact fin _ _ lit_minus (by unfold sgF; rw [if_pos (decide_eq_true h0), if_pos h2])
        · walk_at "go"
          exact fin _ _ lit_empty (by unfold sgF; rw [if_pos (decide_eq_true h0), if_neg h2])
      · have h0 : ¬ i = 0 := by omega
        walk_at "go"
        refine ⟨.inl ⟨rfl, _, .of hl3⟩, ?_⟩
        walk_at "go"
        refine ite_d (fun h2 => ?_) (fun h2 => ?_)
        · walk_at "go"
          exact fin _ _ lit_sm (by unfold sgF; rw [if_neg (by simp [h0]), if_pos h2])
        · walk_at "go"
          exact fin _ _ lit_sp (by unfold sgF; rw [if_neg (by simp [h0]), if_neg h2])
    rintro σ' H5 ⟨c5, h5, rfl⟩
    walk_at "go"
    refine ⟨.inl ⟨rfl, _, .of h5⟩, ?_⟩
    walk_at "go"
    refine w_newT (show 3 ≤ sizeLine by decide) fun v H6 n6 c6 h6 => ?_
    walk_at "go"
    refine ⟨v, t, rfl, .of h6, hs t tm, fun H7 c7 => ?_⟩
    walk_at "go"
    refine w_append (c7.at0 (c6.at0 h5)) (by rw [List.length_map, List.length_append]; simp only [List.length_cons, List.length_nil]; omega) fun H8 c8 h8 => ?_
    refine ⟨(c5.trans (c6.trans c7)).cut n1 c8, ?_, _, _, _, _, _, rfl⟩
    rw [h8]
    unfold svs
    rw [List.map_append, List.map_append, List.append_assoc]
    rfl
  · rintro σ H' ⟨c, hl2, z1, z2, z3, z4, z5, rfl⟩
    have e : ts.take xs.length = ts := by rw [hm.len, List.take_length]
    rw [e] at hl2
    have wl := wdL_len (b := true) hs
    walk_at "go"
    rw [lit_empty]
    refine w_joinS (.of hl2) (by show _ + _ * 0 ≤ _; omega) ?_
    have : txL ts = (wdL true ts).flatten := if_neg fun z => h (by rw [z]; rfl)
    rw [joinL_nil, ← this]
    exact q H' c
theorem txL_len {ts : List Tm} (h : ∀ t ∈ ts, SmT t) : (txL ts).length ≤ 710 * ts.length + 1 := by
  unfold txL
  split
  · exact Nat.succ_le_succ (Nat.zero_le _)
  · have := (wdL_len (b := true) h).1
    rw [List.length_flatten]
    omega
abbrev s_P_str : Stmt := inClass (topS 17) 9
theorem sc_P_str : FnScope ["self"] ["self"] (defScope s_P_str) := ⟨rfl, rfl, rfl, by decide +kernel, rfl, by decide +kernel, by decide +kernel⟩
def sp_P_str (K : PySem.W.Frag) (C : Addr) : Sp := fun vs H Q _ => ∃ (p : Addr) (ts : List Tm), vs = [.ref p] ∧ Po K C H p ts ∧ (∀ t ∈ ts, SmT t) ∧ ts.length ≤ 10000 ∧ ∀ H', Ch [] H H' → Q (.str (S (txL ts))) H'
theorem c_P_str {A_Poly : Addr} (T : Txt mg) (T_P : PolyK K mg A_Poly) (C__text : Cal P w K mg base 6 "_text" (sp__text K)) {f : Addr} {fd : FuncData} (F : DefM K A_Poly "__str__" "Poly.__str__" s_P_str ["self"] f fd) : CalM P w K mg base 7 A_Poly "__str__" (sp_P_str K A_Poly) := by
  refine calM_of F sc_P_str (fun vs H Q E h => by obtain ⟨_, _, rfl, _⟩ := h; rfl) (fun cdv A outer s H vs Q E hr h => ?_)
  obtain ⟨p, ts, rfl, hp, hs, hl, q⟩ := h
  obtain ⟨dx, t0, hp0, xs, hx0, hm⟩ := id hp
  refine ⟨_, (pss_one (ps_ret (pe_joined1 (pe_fmt (pe_cc C__text hr (by decide) (by rfl) (pa_cons (k_fld (K := K) rfl (pv 0)) pa_nil)))))), ?_⟩
  refine w_start (σ := [some _]) rfl ?_
  walk_at "go"
  refine w_fmt ?_
  walk_at "go"
  refine rfld T_P hp0 ?_
  walk_at "go"
  refine ⟨t0, xs, ts, rfl, hx0, hm, hs, hl, fun H1 c1 => ?_⟩
  have l := txL_len hs
  have big : (10000000 : Nat) ≤ sizeLine := by decide
  exact .inl ⟨_, rfl, by rw [S_len]; omega, q H1 c1⟩
abbrev s_P_constant : Stmt := inClass (topS 17) 1
theorem sc_P_constant : FnScope ["n"] ["n"] (defScope s_P_constant) := ⟨rfl, rfl, rfl, by decide +kernel, rfl, by decide +kernel, by decide +kernel⟩
def sp_P_constant (K : PySem.W.Frag) (C : Addr) : Sp := fun vs H Q _ => ∃ (n : Int), vs = [.int n] ∧ ∀ r H' us, Nf us → (∀ e, cf us e = cf [⟨n, 0, 0, 0⟩] e) → Ch [] H H' → Po K C H' r us → Q (.ref r) H'
theorem c_P_constant {A_Poly A_InvalidPoly A_e : Addr} (T_P : PolyK K mg A_Poly) (CI : CalI P w K mg base 3 "Poly" A_Poly [.ref A_e] (sp_P_init K A_Poly A_InvalidPoly)) {f : Addr} {fd : FuncData} (F : DefS K A_Poly "constant" "Poly.constant" s_P_constant ["n"] f fd) :
    CalSN P w K mg base 5 A_Poly "constant" (sp_P_constant K A_Poly) := by
  refine calS_ofN F sc_P_constant (fun vs H Q E h => by obtain ⟨_, rfl, _⟩ := h; rfl) (fun cdv A outer s H vs Q E hr h => ?_)
  obtain ⟨n, rfl, q⟩ := h
  refine ⟨_, (pss_one (ps_ret (pe_mkS CI hr (by decide) (by rfl) (letW (L2N.takes_of rfl rfl rfl rfl)) (pa_cons (pe_lst (pa_cons (pe_tup (pa_cons (pv 0) (pa_cons pe_int (pa_cons pe_int (pa_cons pe_int pa_nil))))) pa_nil)) pa_nil)))), ?_⟩
  refine w_start (σ := [some _]) rfl ?_
  walk_at "go"
  refine w_newT (show 4 ≤ sizeLine by decide) fun b H1 n1 c1 h1 => ?_
  walk_at "go"
  refine w_newL (show 1 ≤ sizeLine by decide) fun l H2 n2 c2 h2 => ?_
  walk_at "go"
  refine mk_poly (a := l) (z := false) (ts := [⟨n, 0, 0, 0⟩]) h2 (Els.nil.cons ⟨b, rfl, .of (c2.at0 h1)⟩) (show 1 < 800000 by decide) (fun t m => by rw [List.mem_singleton.mp m]; exact ⟨Int.le_refl _, Int.le_refl _, Int.le_refl _⟩) fun r dr t1 H3 us nf ce np c3 hr1 ht => ?_
  exact q r H3 us nf ce (c1.trans (c2.trans c3)) ⟨dr, t1, hr1, ht⟩
abbrev s_P_of_unknown : Stmt := inClass (topS 17) 2
theorem sc_P_of_unknown : FnScope ["name"] ["name"] (defScope s_P_of_unknown) := ⟨rfl, rfl, rfl, by decide +kernel, rfl, by decide +kernel, by decide +kernel⟩
def sp_P_of_unknown (K : PySem.W.Frag) (C A : Addr) : Sp := fun vs H Q E => ∃ (s : Str), vs = [.str s] ∧ Nm s E A H fun n => ∀ r H' us, Nf us → (∀ e, cf us e = cf [setN n 1 1 ⟨0, 0, 0, 0⟩] e) → Ch [] H H' → Po K C H' r us → Q (.ref r) H'
theorem c_P_of_unknown {A_Poly A_InvalidPoly A_e A_InvalidUnknown : Addr} (T_P : PolyK K mg A_Poly) (CI : CalI P w K mg base 3 "Poly" A_Poly [.ref A_e] (sp_P_init K A_Poly A_InvalidPoly)) (C_place_of : CalN P w K mg base 3 "place_of" (sp_place_of A_InvalidUnknown)) (C__changed : Cal P w K mg base 1 "_changed" (sp__changed K))
    {f : Addr} {fd : FuncData} (F : DefS K A_Poly "of_unknown" "Poly.of_unknown" s_P_of_unknown ["name"] f fd) :
    CalSN P w K mg base 5 A_Poly "of_unknown" (sp_P_of_unknown K A_Poly A_InvalidUnknown) := by
  refine calS_ofN F sc_P_of_unknown (fun vs H Q E h => by obtain ⟨_, rfl, _⟩ := h; rfl) (fun cdv A outer s H vs Q E hr h => ?_)
  obtain ⟨zs, rfl, q⟩ := h
  refine ⟨_, (pss_one (ps_ret (pe_mkS CI hr (by decide) (by rfl) (letW (L2N.takes_of rfl rfl rfl rfl)) (pa_cons (pe_lst (pa_cons (pe_cc C__changed hr (by decide) (by rfl) (pa_cons pe_int (pa_cons (pe_tup (pa_cons pe_int (pa_cons pe_int (pa_cons pe_int (pa_cons pe_int pa_nil))))) (pa_cons (pe_ccSN C_place_of hr (by decide) (by rfl) (L2N.takes_of rfl rfl rfl rfl) (pa_cons (pv 0) pa_nil)) (pa_cons pe_int pa_nil))))) pa_nil)) pa_nil)))), ?_⟩
  refine w_start (σ := [some _]) rfl ?_
  walk_at "go"
  refine w_newT (show 4 ≤ sizeLine by decide) fun b H1 n1 c1 h1 => ?_
  walk_at "go"
  refine ⟨zs, rfl, ?_⟩
  rcases q with ⟨n, hn, e, q⟩ | ⟨e, q⟩
  case inr => exact .inr ⟨e, fun dd H' c => q dd H' (c1.trans c)⟩
  refine .inl ⟨n, hn, e, fun H2 c2 => ?_⟩
  walk_at "go"
  refine ⟨1, 1, n, b, ⟨0, 0, 0, 0⟩, rfl, hn, .of (c2.at0 h1), fun v u H3 eu c3 hv => ?_⟩
  walk_at "go"
  refine w_newL (show 1 ≤ sizeLine by decide) fun l H4 n4 c4 h4 => ?_
  walk_at "go"
  have eu : u = setN n 1 1 ⟨0, 0, 0, 0⟩ := eu
  refine mk_poly (a := l) (z := false) (ts := [u]) h4 (Els.nil.cons ⟨v, rfl, .of (c4.at0 hv)⟩) (show 1 < 800000 by decide) (fun t m => ?_) fun r dr t1 H5 us nf ce np c5 hr1 ht => ?_
  · rw [List.mem_singleton.mp m, eu]
    unfold setN
    split
    · exact ⟨by decide, Int.le_refl _, Int.le_refl _⟩
    · split
      · exact ⟨Int.le_refl _, by decide, Int.le_refl _⟩
      · exact ⟨Int.le_refl _, Int.le_refl _, by decide⟩
  · rw [eu] at ce
    exact q r H5 us nf ce (c1.trans (c2.trans (c3.trans (c4.trans c5)))) ⟨dr, t1, hr1, ht⟩
abbrev s_P_of_row : Stmt := inClass (topS 17) 3
theorem sc_P_of_row : FnScope ["row", "name", "place", "c", "k"] ["row", "name"] (defScope s_P_of_row) := ⟨rfl, rfl, rfl, by decide +kernel, rfl, by decide +kernel, by decide +kernel⟩
def rowT (n : Nat) (r : List Int) : List Tm := (List.range r.length).map fun k => setN n (r.getD k 0) (k : Int) ⟨0, 0, 0, 0⟩
def sp_P_of_row (K : PySem.W.Frag) (C A : Addr) : Sp := fun vs H Q E => ∃ (a : Addr) (s : Str) (r : List Int), vs = [.ref a, .str s] ∧ SqT K H a (ivs r) ∧ r.length < 100000 ∧ Nm s E A H fun n => ∀ p H' us, Nf us → (∀ e, cf us e = cf (rowT n r) e) → Ch [] H H' → Po K C H' p us → Q (.ref p) H'
theorem c_P_of_row {A_Poly A_InvalidPoly A_e A_InvalidUnknown : Addr} (T : Txt mg) (T_P : PolyK K mg A_Poly) (CI : CalI P w K mg base 3 "Poly" A_Poly [.ref A_e] (sp_P_init K A_Poly A_InvalidPoly)) (C_place_of : CalN P w K mg base 3 "place_of" (sp_place_of A_InvalidUnknown)) (C__changed : Cal P w K mg base 1 "_changed" (sp__changed K))
    {f : Addr} {fd : FuncData} (F : DefS K A_Poly "of_row" "Poly.of_row" s_P_of_row ["row", "name"] f fd) :
    CalSN P w K mg base 5 A_Poly "of_row" (sp_P_of_row K A_Poly A_InvalidUnknown) := by
  refine calS_ofN F sc_P_of_row (fun vs H Q E h => by obtain ⟨_, _, _, rfl, _⟩ := h; rfl) (fun cdv A outer s H vs Q E hr h => ?_)
  obtain ⟨a, zs, r, rfl, ha, hl, q⟩ := h
  refine ⟨_, (pss_cons (ps_set (i := 2) sc_P_of_row.nd rfl (Or.inr rfl) (pe_ccSN C_place_of hr (by decide) (by rfl) (L2N.takes_of rfl rfl rfl rfl) (pa_cons (pv 1) pa_nil)))
 (pss_one (ps_ret (pe_mkS CI hr (by decide) (by rfl) (letW (L2N.takes_of rfl rfl rfl rfl)) (pa_cons (pe_lc (own := [("k", 4), ("c", 3)]) (g := gTup K 2 (gCons (gName 4) (gCons (gName 3) gNil))) rfl sc_P_of_row.nd (k_piE (K := K) rfl (by rfl) T.z_enumerate (pa_cons (pv 0) pa_nil)) (blkOk_by (own := [("k", 4), ("c", 3)]) (N := ["row", "name", "place", "c", "k"]) (sc := defScope s_P_of_row) (by decide +kernel)) (fun _ _ _ _ _ => k_gtup (K := K) rfl rfl (pgs_cons (pg_name (i := 4) sc_P_of_row.nd rfl (Or.inl rfl)) (pgs_cons (pg_name (i := 3) sc_P_of_row.nd rfl (Or.inl rfl)) pgs_nil))) (fun _ _ _ _ _ => pts_nil) (fun _ _ _ _ _ => (pe_cc C__changed hr (by decide) (by rfl) (pa_cons (pv 3) (pa_cons (pe_tup (pa_cons pe_int (pa_cons pe_int (pa_cons pe_int (pa_cons pe_int pa_nil))))) (pa_cons (pv 2) (pa_cons (pv 4) pa_nil))))))) pa_nil))))), ?_⟩
  refine w_start (σ := [some _, some _, none, none, none]) rfl ?_
  walk_at "go"
  refine ⟨zs, rfl, ?_⟩
  rcases q with ⟨n, hn, e, q⟩ | ⟨e, q⟩
  case inr => exact .inr ⟨e, q⟩
  refine .inl ⟨n, hn, e, fun H2 c2 => ?_⟩
  walk_at "go"
  refine w_iEr (c2.sqT ha) ?_
  refine lc_e (List.range r.length) (walk_enumT (xs := ivs r)) (by rw [List.length_range, List.length_map]) (fun _ => true) (fun k v H => Tme K (setN n (r.getD k 0) (k : Int) ⟨0, 0, 0, 0⟩) v H) (fun _ _ _ _ _ c h => h.ch c) (fun H' c => c.sqT (c2.sqT ha)) (by rw [List.length_map]; omega) ?_ ?_
  · rintro k k' x H5 H6 hk c5 hy Nx A1 hN hA
    obtain ⟨b, x1, x2, rfl, nb, rfl, e1, e2⟩ := hy
    have hk2 : k < r.length := by have := lt_of_get hk; rw [List.length_range] at this; exact this
    rw [List.getElem?_range hk2] at hk
    cases hk
    cases e1
    have e2 : (ivs r)[k]? = some x2 := e2
    obtain ⟨z, hz, rfl⟩ := ivs_get_inv e2
    have hg : r.getD k 0 = z := by simp [List.getD, hz]
    have cb : Ch [] H5 (L2.upd H5 b (.tup [.int (k : Nat), .int z])) := Ch.new nb
    have hbb : L2.upd H5 b (.tup [.int (k : Nat), .int z]) b = some (.tup [.int (k : Nat), .int z]) := upd_same
    generalize L2.upd H5 b (.tup [.int (k : Nat), .int z]) = H6 at cb hbb
    walk_at "go"
    refine ⟨rfl, ?_⟩
    walk_at "go"
    refine w_newT (show 4 ≤ sizeLine by decide) fun b2 H7 n7 c7 h7 => ?_
    walk_at "go"
    refine ⟨z, k, n, b2, ⟨0, 0, 0, 0⟩, rfl, hn, .of h7, fun v u H8 eu c8 hv => ?_⟩
    refine hA _ H8 (cb.trans (c7.trans c8)) rfl ⟨v, rfl, .of ?_⟩
    have eu : u = setN n z (k : Int) ⟨0, 0, 0, 0⟩ := eu
    rw [hg, ← eu]
    exact hv
  · intro D H5 out nD c5 hD el
    rw [filter_yes] at el
    have em : Tms K H5 out (rowT n r) := el.map (F := Tme K) (f := fun k : Nat => setN n (r.getD k 0) (k : Int) ⟨0, 0, 0, 0⟩) fun _ _ _ h => h
    walk_at "go"
    refine mk_poly (a := D) (z := false) hD em (by unfold rowT; rw [List.length_map, List.length_range]; omega) (fun t m => ?_) fun p dr t1 H6 us nf ce np c6 hr1 ht => ?_
    · obtain ⟨k, _, rfl⟩ := List.mem_map.mp m
      unfold setN
      have : (0 : Int) ≤ k := Int.natCast_nonneg k
      split
      · exact ⟨this, Int.le_refl _, Int.le_refl _⟩
      · split
        · exact ⟨Int.le_refl _, this, Int.le_refl _⟩
        · exact ⟨Int.le_refl _, Int.le_refl _, this⟩
    · exact q p H6 us nf ce (c2.trans (c5.trans c6)) ⟨dr, t1, hr1, ht⟩
end
end My
local macro_rules | `(tactic| walk_at "w1") => `(tactic| first
  | (with_reducible first
    | refine w_seq ?_
    | refine w_asg ?_
    | refine w_asgG ?_
    | refine w_ret ?_
    | refine w_drop ?_
    | refine w_if ?_
    | refine w_next ?_
    | refine w_break ?_
    | refine w_continue ?_
    | refine w_par ?_
    | refine w_two ?_
    | refine w_c ?_
    | refine w_op ?_
    | refine w_un ?_
    | refine w_I0 ?_
    | refine w_U ?_
    | refine w_eqI ?_
    | refine w_neI ?_
    | refine w_test ?_
    | refine w_B ?_
    | refine w_bl ?_
    | refine w_int ?_
    | refine w_N ?_
    | refine w_and ?_
    | refine w_or ?_
    | refine w_not ?_
    | refine w_andV ?_
    | refine w_orV ?_
    | refine w_notV ?_
    | refine w_ifE ?_
    | refine w_nil ?_
    | refine w_cons ?_
    | refine w_cb ?_
    | refine w_call ?_
    | refine w_tup ?_
    | refine w_lst ?_
    | refine w_abs ?_
    | refine w_max2 ?_
    | refine w_min2 ?_
    | refine w_int1 ?_
    | refine w_int1b ?_
    | refine w_gcd ?_
    | refine w_sl ?_
    | refine w_nopart ?_
    | refine w_part ?_
    | refine w_gname ?_
    | refine w_gsub ?_
    | refine w_gcons ?_
    | refine w_gnil ?_
    | refine w_bm ?_
    | refine w_for ?_
    | refine w_lc ?_
    | refine w_iL ?_
    | refine w_iT ?_
    | refine w_iR1 ?_
    | refine w_iR2 ?_
    | refine w_iE ?_
    | refine w_iV ?_
    | refine w_iR3 ?_
    | refine w_tru ?_
    | refine w_bits ?_
    | refine w_asg2 ?_
    | refine w_iS ?_
    | refine w_iSr ?_
    | refine w_tyS ?_
    | refine w_eqS ?_
    | refine w_neS ?_
    | refine w_notInS ?_
    | refine w_starts ?_
    | refine w_dget ?_
    | refine w_dget2 ?_
    | refine w_dput ?_
    | refine w_fld ?_
    | refine w_sfld ?_
    | refine w_iK ?_
    | refine w_callS ?_
    | refine w_mkS ?_
    | refine w_mmS ?_
    | refine w_mm ?_
    | refine w_smS ?_
    | refine w_refl ?_
    | refine w_cbk ?_
    | refine w_iZ ?_
    | refine w_min3 ?_
    | refine w_isiII ?_
    | refine w_isiIB ?_
    | refine w_yes ?_)
  | ((with_reducible refine' w_var ?e ?_); (case e => with_unfolding_all rfl))
  | (with_reducible refine w_mod (by decide) ?_)
  | (with_reducible refine w_div (by decide) (by decide) ?_)
  | (with_reducible refine w_pow (by decide) (by decide) (by decide) ?_)
  | (with_reducible refine w_mulr (by decide) ?_)
  | (with_reducible refine w_mull (by decide) ?_)
  | ((with_reducible refine' w_addS ?h ?_); (case h => walk_at "sl"))
  | ((with_reducible refine' w_slS ?h ?_); (case h => walk_at "sl"))
  | ((with_reducible refine' w_lenS ?h ?_); (case h => walk_at "sl"))
  | ((with_reducible refine' w_ixL ?h ?e ?_); (case h => exact SqL.of (by assumption)); (case e => with_unfolding_all rfl))
  | ((with_reducible refine' w_ixT ?h ?e ?_); (case h => walk_at "ht"); (case e => with_unfolding_all rfl))
  | ((with_reducible refine' ite_tt ?h ?_); (case h => first | decide | exact rfl))
  | ((with_reducible refine' ite_ff ?h ?_); (case h => first | decide | exact rfl))
  | ((with_reducible refine' w_isiTT ?h ?_); (case h => walk_at "ht"))
  | ((with_reducible refine' w_gtup ?h ?l ?_); (case h => walk_at "ht"); (case l => rfl))
  | ((with_reducible refine' w_iTr ?h ?_); (case h => walk_at "ht"))
  | ((with_reducible refine' w_iLr ?h ?_); (case h => first | exact SqL.of (by assumption) | assumption))
  | ((with_reducible refine' w_lenLi ?h ?_); (case h => assumption))
  | ((with_reducible refine' w_lenTi ?h ?_); (case h => walk_at "ht"))
  | ((with_reducible refine' w_lenT ?h ?_); (case h => walk_at "ht"))
  | ((with_reducible refine' w_lenL ?h ?_); (case h => first | exact SqL.of (by assumption) | assumption)))
local macro_rules | `(tactic| walk_at "ht") => `(tactic| first
  | assumption
  | exact Ch.sqT (by assumption) (by assumption)
  | exact SqT.of (by assumption)
  | exact Ch.sqT (by assumption) (SqT.of (by assumption))
  | exact Ch.sqT (by assumption) (Ch.sqT (by assumption) (by assumption))
  | exact Ch.sqT (by assumption) (Ch.sqT (by assumption) (SqT.of (by assumption)))
  | exact Ch.sqT (by assumption) (Ch.sqT (by assumption) (Ch.sqT (by assumption) (by assumption))))
local macro_rules | `(tactic| walk_at "go") => `(tactic| repeat (walk_at "w1"))
local macro_rules | `(tactic| walk_at "hf") => `(tactic| first
  | assumption
  | (refine Ch.sqT (by assumption) ?_; walk_at "hf")
  | (refine SqL.of ?_; assumption)
  | (refine SqT.of ?_; walk_at "hf")
  | (refine Ch.at0 (by assumption) ?_; walk_at "hf")
  | (refine Ch.sq0 (by assumption) ?_; walk_at "hf")
  | (refine Ch.at1 (by assumption) (by first | assumption | exact Ne.symm (by assumption) | exact ne_of_none (by assumption) (by assumption) | exact Ne.symm (ne_of_none (by assumption) (by assumption))) ?_; walk_at "hf"))
local macro_rules | `(tactic| walk_at "sz") => `(tactic| first
  | assumption
  | (refine sz_le ?_; simp only [List.length_map, List.length_append, List.length_cons, List.length_nil, List.length_replicate, List.length_take, List.length_drop, List.length_range, List.length_set]; omega)
  | (refine sz_lt ?_; simp only [List.length_map, List.length_append, List.length_cons, List.length_nil, List.length_replicate, List.length_take, List.length_drop, List.length_range, List.length_set]; omega))
local macro_rules | `(tactic| walk_at "sl") => `(tactic| first
  | assumption
  | decide +kernel
  | (refine sz_le ?_; (try simp only [PySem.Str.length_append, SX.S_len, List.length_append, List.length_cons, List.length_nil, lenlit]); omega))

namespace My
open PySem PySem.Spec PyProof.Rows L2
/-! the order stays where all terms lose one power -/
theorem after_iff {t u s : Tm} : After (s.mul t).e (s.mul u).e ↔ After t.e u.e := by
  unfold After exr Tm.e Tm.mul
  dsimp only
  have e1 : s.i + u.i + (s.j + u.j) + (s.k + u.k) = u.i + u.j + u.k + (s.i + s.j + s.k) := by omega
  have e2 : s.i + t.i + (s.j + t.j) + (s.k + t.k) = t.i + t.j + t.k + (s.i + s.j + s.k) := by omega
  rw [e1, e2, Int.add_comm s.i u.i, Int.add_comm s.j u.j, Int.add_comm s.k u.k, Int.add_comm s.i t.i, Int.add_comm s.j t.j, Int.add_comm s.k t.k, lexF_add]
theorem setN_back {n : Nat} {c d p : Int} {t : Tm} : ((setN n 1 d ⟨0, 0, 0, 0⟩).mul (setN n c p t)).e = (setN n c (d + p) t).e := by
  unfold setN Tm.mul Tm.e
  split
  · simp
  · split
    · simp
    · simp
theorem setN_same {n : Nat} {c : Int} {t : Tm} : (setN n c (exN n t) t).e = t.e := by
  unfold setN exN Tm.e
  split
  · rfl
  · split
    · rfl
    · rfl
theorem setN_c {n : Nat} {c p : Int} {t : Tm} : (setN n c p t).c = c := by
  unfold setN
  split
  · rfl
  · split <;> rfl
/-- all terms lose d -/
theorem after_set {n : Nat} {d b c : Int} {t u : Tm} (h : After t.e u.e) : After (setN n b (exN n t - d) t).e (setN n c (exN n u - d) u).e := by
  rw [← after_iff (s := setN n 1 d ⟨0, 0, 0, 0⟩), setN_back, setN_back, show d + (exN n t - d) = exN n t by omega, show d + (exN n u - d) = exN n u by omega, setN_same, setN_same]
  exact h
theorem nf_grp {n : Nat} {j : Int} {ts : List Tm} (h : Nf ts) : Nf (grp n j ts) := by
  unfold grp
  refine ⟨fun t ht => ?_, ?_⟩
  · obtain ⟨u, hu, rfl⟩ := List.mem_map.mp ht
    rw [setN_c]
    exact h.nz u ((List.mem_filter.mp hu).1)
  · rw [List.pairwise_map]
    refine List.Pairwise.imp_of_mem ?_ (h.fall.sublist List.filter_sublist)
    intro a b ha hb z
    have ea : exN n a = j := by simpa using (List.mem_filter.mp ha).2
    have eb : exN n b = j := by simpa using (List.mem_filter.mp hb).2
    have := after_set (n := n) (d := j) (b := a.c) (c := b.c) z
    rw [ea, eb, Int.sub_self] at this
    exact this
theorem nf_slp {n : Nat} {ts : List Tm} (h : Nf ts) : Nf (slpL n ts) := by
  unfold slpL
  refine ⟨fun t ht => ?_, ?_⟩
  · obtain ⟨u, hu, rfl⟩ := List.mem_map.mp ht
    rw [setN_c]
    have : 0 < exN n u := by simpa using (List.mem_filter.mp hu).2
    exact Int.mul_ne_zero (h.nz u ((List.mem_filter.mp hu).1)) (by omega)
  · rw [List.pairwise_map]
    refine List.Pairwise.imp_of_mem ?_ (h.fall.sublist List.filter_sublist)
    intro a b ha hb z
    exact after_set (d := 1) z
theorem cf_slp_filter {n : Nat} (ts : List Tm) (e : Ex) : cf (ts.map fun t => setN n (t.c * exN n t) (max 0 (exN n t - 1)) t) e = cf (slpL n ts) e ∨ ¬ ExpOk ts := by
  by_cases hx : ExpOk ts
  case neg => exact .inr hx
  left
  induction ts with
  | nil => rfl
  | cons t ts ih =>
    have ih := ih fun u hu => hx u (List.mem_cons_of_mem _ hu)
    have e0 : 0 ≤ exN n t := exN_nn (hx t List.mem_cons_self)
    rw [List.map_cons, cf_cons, ih, show t :: ts = [t] ++ ts from rfl]
    unfold slpL
    rw [List.filter_append, List.map_append, cf_append]
    congr 1
    by_cases h : 0 < exN n t
    · rw [List.filter_cons_of_pos (by simpa using h), List.filter_nil, List.map_cons, List.map_nil, cf_cons, cf_nil, Int.add_zero, setN_c, setN_c, show max 0 (exN n t - 1) = exN n t - 1 by omega]
    · rw [List.filter_cons_of_neg (by simpa using h), List.filter_nil, List.map_nil, cf_nil, setN_c, show exN n t = 0 by omega, Int.mul_zero]
      split <;> rfl
theorem fdiv_dvd {c g : Int} (hg : g ≠ 0) (h : g.natAbs ∣ c.natAbs) (hc : c ≠ 0) : c.fdiv g ≠ 0 ∧ c.fdiv g * g = c := by
  obtain ⟨k, rfl⟩ := Int.natAbs_dvd_natAbs.mp h
  rw [Int.mul_fdiv_cancel_left _ hg]
  exact ⟨fun z => hc (by rw [z, Int.mul_zero]), Int.mul_comm _ _⟩
theorem nf_prm {ts : List Tm} (h : Nf ts) : Nf (prmL ts) := by
  cases ts with
  | nil => exact .nil
  | cons u us =>
    obtain ⟨c0, cd⟩ := cont_ne (ts := u :: us) (fun z => nomatch z) h
    unfold prmL
    refine ⟨fun t ht => ?_, ?_⟩
    · obtain ⟨v, hv, rfl⟩ := List.mem_map.mp ht
      exact (fdiv_dvd c0 (cd v hv) (h.nz v hv)).1
    · rw [List.pairwise_map]
      exact h.fall
theorem exp_grp {n : Nat} {j : Int} {ts : List Tm} (h : ExpOk ts) : ExpOk (grp n j ts) := fun t ht => by
  obtain ⟨u, hu, rfl⟩ := List.mem_map.mp ht
  obtain ⟨a, b, c⟩ := h u ((List.mem_filter.mp hu).1)
  unfold setN
  split
  · exact ⟨Int.le_refl _, b, c⟩
  · split
    · exact ⟨a, Int.le_refl _, c⟩
    · exact ⟨a, b, Int.le_refl _⟩
/-- what comes from a list by adding up -/
theorem nf_exp {us ts : List Tm} (nf : Nf us) (h : ∀ e, cf us e = cf ts e) (ex : ExpOk ts) : ExpOk us := fun t ht => by
  obtain ⟨u, hu, e⟩ := nf.mem_of h ht
  have := ex u hu
  unfold Tm.e at e
  injection e with e1 e
  injection e with e2 e3
  rw [← e1, ← e2, ← e3]
  exact this
end My
local macro_rules | `(tactic| walk_at "w1") => `(tactic| first
  | (with_reducible first
    | refine w_seq ?_
    | refine w_asg ?_
    | refine w_asgG ?_
    | refine w_ret ?_
    | refine w_drop ?_
    | refine w_if ?_
    | refine w_next ?_
    | refine w_break ?_
    | refine w_continue ?_
    | refine w_par ?_
    | refine w_two ?_
    | refine w_c ?_
    | refine w_op ?_
    | refine w_un ?_
    | refine w_I0 ?_
    | refine w_U ?_
    | refine w_eqI ?_
    | refine w_neI ?_
    | refine w_test ?_
    | refine w_B ?_
    | refine w_bl ?_
    | refine w_int ?_
    | refine w_N ?_
    | refine w_and ?_
    | refine w_or ?_
    | refine w_not ?_
    | refine w_andV ?_
    | refine w_orV ?_
    | refine w_notV ?_
    | refine w_ifE ?_
    | refine w_nil ?_
    | refine w_cons ?_
    | refine w_cb ?_
    | refine w_call ?_
    | refine w_tup ?_
    | refine w_lst ?_
    | refine w_abs ?_
    | refine w_max2 ?_
    | refine w_min2 ?_
    | refine w_int1 ?_
    | refine w_int1b ?_
    | refine w_gcd ?_
    | refine w_sl ?_
    | refine w_nopart ?_
    | refine w_part ?_
    | refine w_gname ?_
    | refine w_gsub ?_
    | refine w_gcons ?_
    | refine w_gnil ?_
    | refine w_bm ?_
    | refine w_for ?_
    | refine w_lc ?_
    | refine w_iL ?_
    | refine w_iT ?_
    | refine w_iR1 ?_
    | refine w_iR2 ?_
    | refine w_iE ?_
    | refine w_iV ?_
    | refine w_iR3 ?_
    | refine w_tru ?_
    | refine w_bits ?_
    | refine w_asg2 ?_
    | refine w_iS ?_
    | refine w_iSr ?_
    | refine w_tyS ?_
    | refine w_eqS ?_
    | refine w_neS ?_
    | refine w_notInS ?_
    | refine w_starts ?_
    | refine w_dget ?_
    | refine w_dget2 ?_
    | refine w_dput ?_
    | refine w_fld ?_
    | refine w_sfld ?_
    | refine w_iK ?_
    | refine w_callS ?_
    | refine w_mkS ?_
    | refine w_mmS ?_
    | refine w_mm ?_
    | refine w_smS ?_
    | refine w_refl ?_
    | refine w_cbk ?_
    | refine w_iZ ?_
    | refine w_min3 ?_
    | refine w_isiII ?_
    | refine w_isiIB ?_
    | refine w_yes ?_
    | refine w_revS ?_)
  | ((with_reducible refine' w_var ?e ?_); (case e => with_unfolding_all rfl))
  | (with_reducible refine w_mod (by decide) ?_)
  | (with_reducible refine w_div (by decide) (by decide) ?_)
  | (with_reducible refine w_pow (by decide) (by decide) (by decide) ?_)
  | (with_reducible refine w_mulr (by decide) ?_)
  | (with_reducible refine w_mull (by decide) ?_)
  | ((with_reducible refine' w_addS ?h ?_); (case h => walk_at "sl"))
  | ((with_reducible refine' w_slS ?h ?_); (case h => walk_at "sl"))
  | ((with_reducible refine' w_lenS ?h ?_); (case h => walk_at "sl"))
  | ((with_reducible refine' w_ixL ?h ?e ?_); (case h => exact SqL.of (by assumption)); (case e => with_unfolding_all rfl))
  | ((with_reducible refine' w_ixT ?h ?e ?_); (case h => walk_at "ht"); (case e => with_unfolding_all rfl))
  | ((with_reducible refine' ite_tt ?h ?_); (case h => first | decide | exact rfl))
  | ((with_reducible refine' ite_ff ?h ?_); (case h => first | decide | exact rfl))
  | ((with_reducible refine' w_isiTT ?h ?_); (case h => walk_at "ht"))
  | ((with_reducible refine' w_gtup ?h ?l ?_); (case h => walk_at "ht"); (case l => rfl))
  | ((with_reducible refine' w_iTr ?h ?_); (case h => walk_at "ht"))
  | ((with_reducible refine' w_iLr ?h ?_); (case h => first | exact SqL.of (by assumption) | assumption))
  | ((with_reducible refine' w_lenLi ?h ?_); (case h => assumption))
  | ((with_reducible refine' w_lenTi ?h ?_); (case h => walk_at "ht"))
  | ((with_reducible refine' w_lenT ?h ?_); (case h => walk_at "ht"))
  | ((with_reducible refine' w_lenL ?h ?_); (case h => first | exact SqL.of (by assumption) | assumption)))
local macro_rules | `(tactic| walk_at "ht") => `(tactic| first
  | assumption
  | exact Ch.sqT (by assumption) (by assumption)
  | exact SqT.of (by assumption)
  | exact Ch.sqT (by assumption) (SqT.of (by assumption))
  | exact Ch.sqT (by assumption) (Ch.sqT (by assumption) (by assumption))
  | exact Ch.sqT (by assumption) (Ch.sqT (by assumption) (SqT.of (by assumption)))
  | exact Ch.sqT (by assumption) (Ch.sqT (by assumption) (Ch.sqT (by assumption) (by assumption))))
local macro_rules | `(tactic| walk_at "go") => `(tactic| repeat (walk_at "w1"))
local macro_rules | `(tactic| walk_at "hf") => `(tactic| first
  | assumption
  | (refine Ch.sqT (by assumption) ?_; walk_at "hf")
  | (refine SqL.of ?_; assumption)
  | (refine SqT.of ?_; walk_at "hf")
  | (refine Ch.at0 (by assumption) ?_; walk_at "hf")
  | (refine Ch.sq0 (by assumption) ?_; walk_at "hf")
  | (refine Ch.at1 (by assumption) (by first | assumption | exact Ne.symm (by assumption) | exact ne_of_none (by assumption) (by assumption) | exact Ne.symm (ne_of_none (by assumption) (by assumption))) ?_; walk_at "hf"))
local macro_rules | `(tactic| walk_at "sz") => `(tactic| first
  | assumption
  | (refine sz_le ?_; simp only [List.length_map, List.length_append, List.length_cons, List.length_nil, List.length_replicate, List.length_take, List.length_drop, List.length_range, List.length_set]; omega)
  | (refine sz_lt ?_; simp only [List.length_map, List.length_append, List.length_cons, List.length_nil, List.length_replicate, List.length_take, List.length_drop, List.length_range, List.length_set]; omega))
local macro_rules | `(tactic| walk_at "sl") => `(tactic| first
  | assumption
  | decide +kernel
  | (refine sz_le ?_; (try simp only [PySem.Str.length_append, SX.S_len, List.length_append, List.length_cons, List.length_nil, lenlit]); omega))

namespace My
open PySem PySem.Spec PyProof.Rows L2
section
variable {P : Program} {w : World} {K : PySem.W.Frag} {mg : Str → Option Value} {base : Heap}
/-! ### the box that the law draws from -/
def Box (H : Hp) (b c : Addr) : Prop := ∃ (cs : List Int) (k l t : Int), H b = some (.lst [.ref c, .int k, .int l, .int t]) ∧ H c = some (.lst (ivs cs)) ∧ b ≠ c ∧ cs.length ≤ 63 ∧ 0 ≤ l
theorem Box.mono {H H' : Hp} {b c : Addr} (B : Box H b c) (h : Ch [] H H') : Box H' b c := by
  obtain ⟨cs, k, l, t, h1, h2, r⟩ := B
  exact ⟨cs, k, l, t, h.at0 h1, h.at0 h2, r⟩
theorem Box.mono1 {H H' : Hp} {b c d : Addr} (B : Box H b c) (h : Ch [d] H H') (n1 : b ≠ d) (n2 : c ≠ d) : Box H' b c := by
  obtain ⟨cs, k, l, t, h1, h2, r⟩ := B
  exact ⟨cs, k, l, t, h.at1 n1 h1, h.at1 n2 h2, r⟩
/-- a new address is neither -/
theorem Box.ne {H : Hp} {b c d : Addr} (B : Box H b c) (hd : H d = none) : b ≠ d ∧ c ≠ d := by
  obtain ⟨cs, k, l, t, h1, h2, r⟩ := B
  exact ⟨ne_of_none h1 hd, ne_of_none h2 hd⟩
abbrev s__law_box : Stmt := topS 31
theorem sc__law_box : FnScope ["script", "cell"] ["script"] (defScope s__law_box) := ⟨rfl, rfl, rfl, by decide +kernel, rfl, by decide +kernel, by decide +kernel⟩
def sp__law_box (K : PySem.W.Frag) : Sp := fun vs H Q _ => ∃ (a : Addr) (ns : List Int), vs = [.ref a] ∧ SqL K H a (ivs ns) ∧ ns.length ≤ 63 ∧ ∀ b c H', Ch [] H H' → Box H' b c → Q (.ref b) H'
theorem c__law_box (T : Txt mg) {f : Addr} {fd : FuncData} (F : DefF K mg "_law_box" s__law_box ["script"] f fd) : Cal P w K mg base 1 "_law_box" (sp__law_box K) := by
  refine cal_of F sc__law_box (fun vs H Q E h => by obtain ⟨_, _, rfl, _⟩ := h; rfl) (fun cdv A outer s H vs Q E hr h => ?_)
  obtain ⟨a, ns, rfl, hs, hl, q⟩ := h
  refine ⟨_, (pss_one (ps_ret (pe_lst (pa_cons (pe_lc (own := [("cell", 1)]) (g := gName 1) rfl sc__law_box.nd (k_piL (K := K) rfl (pe_slice (k_slL (K := K) rfl) (pv 0) po_none (po_some pe_int))) (blkOk_by (own := [("cell", 1)]) (N := ["script", "cell"]) (sc := defScope s__law_box) (by decide +kernel)) (fun _ _ _ _ _ => pg_name (i := 1) sc__law_box.nd rfl (Or.inl rfl)) (fun _ _ _ _ _ => pts_nil) (fun _ _ _ _ _ => (pe_callTy cb_int (by rfl) T.z_int (by decide +kernel) (pa_cons (pv 1) pa_nil)))) (pa_cons pe_int (pa_cons pe_int (pa_cons pe_int pa_nil))))))), ?_⟩
  refine w_start (σ := [some _, none]) rfl ?_
  walk_at "go"
  refine w_slL hs fun s1 H1 n1 c1 h1 => ?_
  have e63 : cutV (ivs ns) none (some 63) = ivs ns := by
    have := cutV_whole (xs := ivs ns) (lo := none) (hi := some 63) ⟨HT.sIx_none _ _, by
      have := sIx_nat' (ivs ns).length (ivs ns).length 63
      rw [List.length_map] at this ⊢
      show HT.sIx ns.length ns.length (some ((63 : Nat) : Int)) = _
      rw [this]
      omega⟩
    exact this
  rw [e63] at h1
  walk_at "go"
  have w : Walk (Itl K s1) ns.length (fun H => SqL K H s1 (ivs ns)) (YAt (ivs ns)) := by
    have q := walk_list (K := K) (a := s1) (xs := ivs ns)
    rw [List.length_map] at q
    exact q
  refine lc_w (i := 1) w (fun k => .int (ns.getD k 0)) rfl (fun _ c => c.sq0 (.of h1)) (by omega) (fun k x H2 H3 hk c y S kk => ?_) (fun D H2 nD c2 hD => ?_)
  · obtain ⟨e, hx⟩ := y
    subst e
    obtain ⟨z, hz, rfl⟩ := ivs_get_inv hx
    walk_at "go"
    have e : ns.getD k 0 = z := coef_get hz
    have kk := kk _ .refl
    rw [e] at kk
    exact kk
  · rw [range_map] at hD
    walk_at "go"
    refine w_newL (show 4 ≤ sizeLine by decide) fun b H3 nb c3 hb => ?_
    exact q b D _ ((c1.trans c2).trans c3) ⟨ns, 0, 0, 0, hb, c3.at0 hD, (ne_of_none hD nb).symm, hl, Int.le_refl _⟩
abbrev s__law_mix : Stmt := topS 32
theorem sc__law_mix : FnScope ["cell", "turn", "first", "second"] ["cell", "turn"] (defScope s__law_mix) := ⟨rfl, rfl, rfl, by decide +kernel, rfl, by decide +kernel, by decide +kernel⟩
def sp__law_mix : Sp := fun vs H Q _ => ∃ (a t : Int), vs = [.int a, .int t] ∧ ∀ r : Int, Q (.int r) H
theorem c__law_mix (T : Txt mg) {f : Addr} {fd : FuncData} (F : DefF K mg "_law_mix" s__law_mix ["cell", "turn"] f fd) : Cal P w K mg base 1 "_law_mix" sp__law_mix := by
  refine cal_of F sc__law_mix (fun vs H Q E h => by obtain ⟨_, _, rfl, _⟩ := h; rfl) (fun cdv A outer s H vs Q E hr h => ?_)
  obtain ⟨a, t, rfl, q⟩ := h
  refine ⟨_, (pss_cons (ps_set (i := 2) sc__law_mix.nd rfl (Or.inl rfl) (pe_op op_mod (pe_op op_add (pe_op op_add (pe_op op_mulG (pe_callTy cb_int (by rfl) T.z_int (by decide +kernel) (pa_cons (pv 0) pa_nil)) pe_int) (pe_op op_mulG (pv 1) pe_int)) pe_int) pe_int))
 (pss_cons (ps_set (i := 3) sc__law_mix.nd rfl (Or.inl rfl) (pe_op op_mod (pe_op op_add (pe_op op_add (pe_op op_mulG (pv 2) (pv 2)) (pe_op op_mulG (pv 1) pe_int)) pe_int) pe_int))
 (pss_one (ps_ret (pe_op op_fdiv (pe_op op_mod (pe_op op_add (pe_op op_mulG (pv 3) pe_int) (pv 2)) pe_int) pe_int))))), ?_⟩
  refine w_start (σ := [some _, some _, none, none]) rfl ?_
  walk_at "go"
  generalize hf : (a * 48271 + t * 69621 + 11) % 2147483647 = first
  have hfb : first.natAbs < 2 ^ 63 := by omega
  refine w_mulr hfb ?_
  walk_at "go"
  exact q _
abbrev s__law_draw : Stmt := topS 33
theorem sc__law_draw : FnScope ["box", "size", "digit", "cell"] ["box", "size"] (defScope s__law_draw) := ⟨rfl, rfl, rfl, by decide +kernel, rfl, by decide +kernel, by decide +kernel⟩
def sp__law_draw : Sp := fun vs H Q _ => ∃ (b c : Addr) (size : Int), vs = [.ref b, .int size] ∧ Box H b c ∧ 0 < size ∧ size < 1073741824 ∧ ∀ (r : Int) H', 0 ≤ r → r < size → Ch [b] H H' → Box H' b c → Q (.int r) H'
theorem c__law_draw (T : Txt mg) (C__law_mix : Cal P w K mg base 1 "_law_mix" sp__law_mix) {f : Addr} {fd : FuncData} (F : DefF K mg "_law_draw" s__law_draw ["box", "size"] f fd) : Cal P w K mg base 2 "_law_draw" sp__law_draw := by
  refine cal_of F sc__law_draw (fun vs H Q E h => by obtain ⟨_, _, _, rfl, _⟩ := h; rfl) (fun cdv A outer s H vs Q E hr h => ?_)
  obtain ⟨b, c, size, rfl, ⟨cs, k, l, t, hb, hc, ne, hlen, hl⟩, hs0, hs1, q⟩ := h
  refine ⟨_, (pss_cons (ps_asg (pe_op op_add (pe_ix (k_ixL (K := K) rfl) (pv 0) pe_int (fun _ _ => rfl)) pe_int) (pg_sub (pv 0) pe_int set_list))
 (pss_cons (ps_if (pt_cmpR op_gt (pe_ix (k_ixL (K := K) rfl) (pv 0) pe_int (fun _ _ => rfl)) pe_int (nomark _)) (pss_cons (ps_set (i := 2) sc__law_draw.nd rfl (Or.inl rfl) (pe_op op_mod (pe_callTy cb_int (by rfl) T.z_int (by decide +kernel) (pa_cons (pe_ix (k_ixL (K := K) rfl) (pv 0) pe_int (fun _ _ => rfl)) pa_nil)) (pv 1)))
 (pss_cons (ps_asg (pe_op op_fdivG (pe_ix (k_ixL (K := K) rfl) (pv 0) pe_int (fun _ _ => rfl)) (pv 1)) (pg_sub (pv 0) pe_int set_list))
 (pss_one (ps_ret (pv 2))))) pss_nil)
 (pss_cons (ps_set (i := 3) sc__law_draw.nd rfl (Or.inl rfl) pe_int)
 (Evl.pss_cut (ps_if (k_tru (K := K) rfl (pe_ix (k_ixL (K := K) rfl) (pv 0) pe_int (fun _ _ => rfl))) (pss_one (ps_set (i := 3) sc__law_draw.nd rfl (Or.inl rfl) (pe_ix (k_ixL (K := K) rfl) (pe_ix (k_ixL (K := K) rfl) (pv 0) pe_int (fun _ _ => rfl)) (pe_op op_mod (pe_callTy cb_int (by rfl) T.z_int (by decide +kernel) (pa_cons (pe_ix (k_ixL (K := K) rfl) (pv 0) pe_int (fun _ _ => rfl)) pa_nil)) (pe_callB (k_len (K := K) rfl) (by rfl) T.z_len PySem.boot_len (pa_cons (pe_ix (k_ixL (K := K) rfl) (pv 0) pe_int (fun _ _ => rfl)) pa_nil))) (fun _ _ => rfl)))) pss_nil)
 (pss_cons (ps_asg (pe_op op_add (pe_ix (k_ixL (K := K) rfl) (pv 0) pe_int (fun _ _ => rfl)) pe_int) (pg_sub (pv 0) pe_int set_list))
 (pss_cons (ps_if (PW.pt (pw_and (pt_cmpR op_ge (pe_callB cb_abs (by rfl) T.z_abs (by decide +kernel) (pa_cons (pv 3) pa_nil)) (pe_op op_pow pe_int pe_int) (nomark _)) (pw_and1 (pt_cmpR op_le (pe_ix (k_ixL (K := K) rfl) (pv 0) pe_int (fun _ _ => rfl)) (pe_callB (k_len (K := K) rfl) (by rfl) T.z_len PySem.boot_len (pa_cons (pe_ix (k_ixL (K := K) rfl) (pv 0) pe_int (fun _ _ => rfl)) pa_nil)) (nomark _))))) (pss_cons (ps_asg (pe_op op_fdivG (pe_callB cb_abs (by rfl) T.z_abs (by decide +kernel) (pa_cons (pv 3) pa_nil)) (pv 1)) (pg_sub (pv 0) pe_int set_list))
 (pss_one (ps_ret (pe_op op_mod (pe_callTy cb_int (by rfl) T.z_int (by decide +kernel) (pa_cons (pe_callB cb_abs (by rfl) T.z_abs (by decide +kernel) (pa_cons (pv 3) pa_nil)) pa_nil)) (pv 1))))) pss_nil)
 (pss_one (ps_ret (pe_op op_mod (pe_callTy cb_int (by rfl) T.z_int (by decide +kernel) (pa_cons (pe_cc C__law_mix hr (by decide) (by rfl) (pa_cons (pv 3) (pa_cons (pe_ix (k_ixL (K := K) rfl) (pv 0) pe_int (fun _ _ => rfl)) pa_nil))) pa_nil)) (pv 1)))))))))), ?_⟩
  refine w_start (σ := [some _, some _, none, none]) rfl ?_
  walk_at "go"
  refine w_setL (k := 3) hb rfl (show 3 < 4 by decide) fun H1 c1 h1 => ?_
  have h1 : H1 b = some (.lst [.ref c, .int k, .int l, .int (t + 1)]) := h1
  have hc1 := c1.at1 ne.symm hc
  walk_at "go"
  have szb : size.natAbs < 2 ^ 31 := by omega
  refine ite_d (fun h0 => ?_) (fun h0 => ?_)
  · walk_at "go"
    refine w_mod hs0 ?_
    walk_at "go"
    refine w_I (div_ok (by omega) szb (by decide)) ?_
    walk_at "go"
    refine w_setL (k := 2) h1 rfl (show 2 < 4 by decide) fun H2 c2 h2 => ?_
    have h2 : H2 b = some (.lst [.ref c, .int k, .int (l.fdiv size), .int (t + 1)]) := h2
    walk_at "go"
    exact q _ _ (Int.emod_nonneg _ (by omega)) (Int.emod_lt_of_pos _ hs0) (c1.trans c2) ⟨cs, k, _, _, h2, c2.at1 ne.symm hc1, ne, hlen, Int.fdiv_nonneg hl (by omega)⟩
  walk_at "go"
  refine w_cut (M := fun σ' H' => H' = H1 ∧ ∃ cell : Int, σ' = [some (.ref b), some (.int size), none, some (.int cell)]) ?_ ?_
  · walk_at "go"
    refine w_truL (.of hc1) ?_
    refine ite_b (fun he => ?_) (fun he => ?_)
    · have hpos : 0 < cs.length := by
        cases cs with
        | nil => simp at he
        | cons x r => simp
      walk_at "go"
      refine w_mod (by omega) ?_
      have m0 := Int.emod_nonneg k (show (cs.length : Int) ≠ 0 by omega)
      have m1 := Int.emod_lt_of_pos k (show (0 : Int) < cs.length by omega)
      refine w_ixLi (k := (k % cs.length).toNat) hc1 (by omega) (get_coef (by omega)) ?_
      walk_at "go"
      exact ⟨rfl, _, rfl⟩
    · walk_at "go"
      exact ⟨rfl, _, rfl⟩
  · rintro σ' H' ⟨rfl, cell, rfl⟩
    walk_at "go"
    refine w_setL (k := 1) h1 rfl (show 1 < 4 by decide) fun H2 c2 h2 => ?_
    have h2 : H2 b = some (.lst [.ref c, .int (k + 1), .int l, .int (t + 1)]) := h2
    have hc2 := c2.at1 ne.symm hc1
    have c12 := c1.trans c2
    have tl : (∀ r : Int, ∀ H3, 0 ≤ r → r < size → Ch [b] H2 H3 → Box H3 b c → Q (.int r) H3) := fun r H3 a1 a2 a3 a4 => q r H3 a1 a2 (c12.trans a3) a4
    have B2 : Box H2 b c := ⟨cs, _, _, _, h2, hc2, ne, hlen, hl⟩
    walk_at "go"
    refine ite_d (fun h3 => ?_) (fun h3 => ?_)
    · walk_at "go"
      refine ite_d (fun h4 => ?_) (fun h4 => ?_)
      · walk_at "go"
        refine w_I (div_ok (by omega) szb (by decide)) ?_
        walk_at "go"
        refine w_setL (k := 2) h2 rfl (show 2 < 4 by decide) fun H3 c3 h3 => ?_
        have h3 : H3 b = some (.lst [.ref c, .int (k + 1), .int ((cell.natAbs : Int).fdiv size), .int (t + 1)]) := h3
        walk_at "go"
        refine w_mod hs0 ?_
        exact tl _ _ (Int.emod_nonneg _ (by omega)) (Int.emod_lt_of_pos _ hs0) c3 ⟨cs, _, _, _, h3, c3.at1 ne.symm hc2, ne, hlen, Int.fdiv_nonneg (by omega) (by omega)⟩
      · walk_at "go"
        refine ⟨cell, t + 1, rfl, fun r => ?_⟩
        walk_at "go"
        refine w_mod hs0 ?_
        exact tl _ _ (Int.emod_nonneg _ (by omega)) (Int.emod_lt_of_pos _ hs0) .refl B2
    · rw [if_neg (by decide)]
      walk_at "go"
      refine ⟨cell, t + 1, rfl, fun r => ?_⟩
      walk_at "go"
      refine w_mod hs0 ?_
      exact tl _ _ (Int.emod_nonneg _ (by omega)) (Int.emod_lt_of_pos _ hs0) .refl B2
/-! ### _law_gcd -/
abbrev s__law_gcd : Stmt := topS 35
theorem sc__law_gcd : FnScope ["a", "b", "turn"] ["a", "b"] (defScope s__law_gcd) := ⟨rfl, rfl, rfl, by decide +kernel, rfl, by decide +kernel, by decide +kernel⟩
def sp__law_gcd : Sp := fun vs H Q _ => ∃ (a b : Int) (n : Nat), vs = [.int a, .int b] ∧ b.natAbs < 2 ^ n ∧ n ≤ 1000000 ∧ Q (.int (Nat.gcd a.natAbs b.natAbs : Nat)) H
theorem bits_of (y : Nat) : ∃ L : Nat, Builtin.Int.intBits (y : Int) = L ∧ y < 2 ^ L ∧ ∀ n, y < 2 ^ n → L ≤ n := by
  unfold Builtin.Int.intBits
  by_cases h : y = 0
  · subst h
    exact ⟨0, rfl, by decide, fun n _ => Nat.zero_le n⟩
  · have e : ((y : Int) == 0) = false := by
      rw [beq_eq_false_iff_ne]
      omega
    refine ⟨y.log2 + 1, ?_, Nat.lt_log2_self, fun n hn => ?_⟩
    · rw [e]
      rfl
    · exact (Nat.log2_lt h).mpr hn
theorem c__law_gcd (T : Txt mg) {f : Addr} {fd : FuncData} (F : DefF K mg "_law_gcd" s__law_gcd ["a", "b"] f fd) : Cal P w K mg base 1 "_law_gcd" sp__law_gcd := by
  refine cal_of F sc__law_gcd (fun vs H Q E h => by obtain ⟨_, _, _, rfl, _⟩ := h; rfl) (fun cdv A outer s H vs Q E hr h => ?_)
  obtain ⟨a, b, n, rfl, hb, hn, q⟩ := h
  refine ⟨_, (pss_cons (ps_par (i := 0) (j := 1) (by rfl) sc__law_gcd.nd rfl rfl (by decide) rfl rfl (pa_cons (pe_callB cb_abs (by rfl) T.z_abs (by decide +kernel) (pa_cons (pv 0) pa_nil)) (pa_cons (pe_callB cb_abs (by rfl) T.z_abs (by decide +kernel) (pa_cons (pv 1) pa_nil)) pa_nil)) (by rfl))
 (pss_cons (ps_for PassesOwn.never rfl (pi_range1 (by rfl) T.z_range (pa_cons (pe_op op_add (pe_op op_mulG pe_int (pe_bits (pv 1))) pe_int) pa_nil)) (pg_name (i := 2) sc__law_gcd.nd rfl (Or.inl rfl)) (pss_cons (ps_if (pt_cmpR op_eq (pv 1) pe_int (nomark _)) (pss_one (ps_ret (pv 0))) pss_nil)
 (pss_one (ps_par (i := 0) (j := 1) (by rfl) sc__law_gcd.nd rfl rfl (by decide) rfl rfl (pa_cons (pv 1) (pa_cons (pe_op op_mod (pe_callTy cb_int (by rfl) T.z_int (by decide +kernel) (pa_cons (pv 0) pa_nil)) (pv 1)) pa_nil)) (by rfl)))))
 (pss_one (ps_ret (pv 0))))), ?_⟩
  refine w_start (σ := [some _, some _, none]) rfl ?_
  walk_at "go"
  obtain ⟨L, eL, hL, hLn⟩ := bits_of b.natAbs
  have hLn := hLn n hb
  rw [eL]
  walk_at "go"
  refine w_iR1r (by omega) (by omega) ?_
  have en : (2 * (L : Int) + 4).toNat = 2 * L + 4 := by omega
  rw [en]
  refine for_R (n := 2 * L + 4) (fun i σ H' => H' = H ∧ ∃ (x y : Nat) (z : Option V), σ = [some (.int x), some (.int y), z] ∧ Nat.gcd x y = Nat.gcd a.natAbs b.natAbs ∧ Euc L i x y) ⟨rfl, _, _, none, rfl, rfl, fun _ => by simpa using hL, fun h => by omega⟩ ?_ ?_
  · rintro i σ H' hi ⟨rfl, x, y, z, rfl, hg, eu⟩
    walk_at "go"
    refine ite_d (fun h0 => ?_) (fun h0 => ?_)
    · walk_at "go"
      have hy : y = 0 := by omega
      subst hy
      rw [Nat.gcd_zero_right] at hg
      rw [hg]
      exact q
    · walk_at "go"
      refine w_mod (by omega) ?_
      walk_at "go"
      refine ⟨rfl, y, x % y, _, rfl, ?_, eu.step (by omega)⟩
      rw [← hg, Nat.gcd_comm x y, Nat.gcd_rec y x, Nat.gcd_comm]
  · rintro σ H' ⟨rfl, x, y, z, rfl, hg, eu⟩
    have hy := eu.zero
    subst hy
    rw [Nat.gcd_zero_right] at hg
    walk_at "go"
    rw [hg]
    exact q
/-! ### _law_number -/
abbrev s__law_number : Stmt := topS 36
theorem sc__law_number : FnScope ["box", "groups", "number", "k"] ["box", "groups"] (defScope s__law_number) := ⟨rfl, rfl, rfl, by decide +kernel, rfl, by decide +kernel, by decide +kernel⟩
def sp__law_number : Sp := fun vs H Q _ => ∃ (b c : Addr) (g : Nat), vs = [.ref b, .int g] ∧ Box H b c ∧ g ≤ 1000 ∧ ∀ (z : Int) H', z.natAbs < 2 ^ (27 * g + 4) → Ch [b] H H' → Box H' b c → Q (.int z) H'
theorem c__law_number (T : Txt mg) (C__law_draw : Cal P w K mg base 2 "_law_draw" sp__law_draw) {f : Addr} {fd : FuncData} (F : DefF K mg "_law_number" s__law_number ["box", "groups"] f fd) : Cal P w K mg base 3 "_law_number" sp__law_number := by
  refine cal_of F sc__law_number (fun vs H Q E h => by obtain ⟨_, _, _, rfl, _⟩ := h; rfl) (fun cdv A outer s H vs Q E hr h => ?_)
  obtain ⟨b, c, g, rfl, B, hg, q⟩ := h
  refine ⟨_, (pss_cons (ps_if (pt_cmpR op_eq (pv 1) pe_int (nomark _)) (pss_one (ps_ret (pe_op op_sub (pe_cc C__law_draw hr (by decide) (by rfl) (pa_cons (pv 0) (pa_cons pe_int pa_nil))) pe_int))) pss_nil)
 (pss_cons (ps_set (i := 2) sc__law_number.nd rfl (Or.inl rfl) pe_int)
 (pss_cons (ps_for PassesOwn.never rfl (pi_range1 (by rfl) T.z_range (pa_cons (pv 1) pa_nil)) (pg_name (i := 3) sc__law_number.nd rfl (Or.inl rfl)) (pss_one (ps_set (i := 2) sc__law_number.nd rfl (Or.inl rfl) (pe_op op_add (pe_op op_mulG (pv 2) (pe_op op_pow pe_int pe_int)) (pe_cc C__law_draw hr (by decide) (by rfl) (pa_cons (pv 0) (pa_cons (pe_op op_pow pe_int pe_int) pa_nil)))))))
 (pss_cons (ps_if (pt_cmpR op_eq (pe_cc C__law_draw hr (by decide) (by rfl) (pa_cons (pv 0) (pa_cons pe_int pa_nil))) pe_int (nomark _)) (pss_one (ps_ret (pe_un un_neg (pv 2)))) pss_nil)
 (pss_one (ps_ret (pv 2))))))), ?_⟩
  refine w_start (σ := [some _, some _, none, none]) rfl ?_
  walk_at "go"
  refine ite_d (fun h0 => ?_) (fun h0 => ?_)
  · walk_at "go"
    refine ⟨b, c, 19, rfl, B, by decide, by decide, fun r H1 r0 r1 c1 B1 => ?_⟩
    walk_at "go"
    refine q _ _ (Nat.lt_of_lt_of_le (show (r - 9).natAbs < 2 ^ 4 by omega) (Nat.pow_le_pow_right (by decide) (by omega))) c1 B1
  walk_at "go"
  refine w_iR1r (by omega) (by omega) ?_
  refine for_R (n := g) (fun i σ H' => Ch [b] H H' ∧ Box H' b c ∧ ∃ (x : Nat) (z : Option V), σ = [some (.ref b), some (.int (g : Int)), some (.int (x : Int)), z] ∧ x < 2 ^ (27 * i)) ⟨.refl, B, 0, none, rfl, Nat.two_pow_pos _⟩ ?_ ?_
  · rintro i σ H' hi ⟨c1, B1, x, z, rfl, hx⟩
    walk_at "go"
    have e8 : (10 : Int) ^ (8 : Int).toNat = 100000000 := by decide
    refine ⟨b, c, 10 ^ (8 : Int).toNat, rfl, B1, by decide, by decide, fun r H2 r0 r1 c2 B2 => ?_⟩
    rw [e8] at r1
    walk_at "go"
    rw [e8]
    refine ⟨c1.trans c2, B2, x * 100000000 + r.toNat, some (.int (0 + (i : Int))), ?_, ?_⟩
    · have e : (x : Int) * 100000000 + r = ((x * 100000000 + r.toNat : Nat) : Int) := by omega
      rw [e]
      rfl
    · rw [Nat.mul_add, Nat.mul_one, Nat.pow_add]
      have p : (2 : Nat) ^ 27 = 134217728 := by decide
      rw [p]
      omega
  · rintro σ H' ⟨c1, B1, x, z, rfl, hx⟩
    have hb : ∀ y : Int, y.natAbs = x → y.natAbs < 2 ^ (27 * g + 4) := fun y hy => by
      rw [hy]
      exact Nat.lt_of_lt_of_le hx (Nat.pow_le_pow_right (by decide) (by omega))
    walk_at "go"
    refine ⟨b, c, 2, rfl, B1, by decide, by decide, fun r H2 r0 r1 c2 B2 => ?_⟩
    walk_at "go"
    refine ite_d (fun h1 => ?_) (fun h1 => ?_)
    · walk_at "go"
      exact q _ _ (hb _ (by omega)) (c1.trans c2) B2
    · walk_at "go"
      exact q _ _ (hb _ (by omega)) (c1.trans c2) B2
end
end My
local macro_rules | `(tactic| walk_at "w1") => `(tactic| first
  | (with_reducible first
    | refine w_seq ?_
    | refine w_asg ?_
    | refine w_asgG ?_
    | refine w_ret ?_
    | refine w_drop ?_
    | refine w_if ?_
    | refine w_next ?_
    | refine w_break ?_
    | refine w_continue ?_
    | refine w_par ?_
    | refine w_two ?_
    | refine w_c ?_
    | refine w_op ?_
    | refine w_un ?_
    | refine w_I0 ?_
    | refine w_U ?_
    | refine w_eqI ?_
    | refine w_neI ?_
    | refine w_test ?_
    | refine w_B ?_
    | refine w_bl ?_
    | refine w_int ?_
    | refine w_N ?_
    | refine w_and ?_
    | refine w_or ?_
    | refine w_not ?_
    | refine w_andV ?_
    | refine w_orV ?_
    | refine w_notV ?_
    | refine w_ifE ?_
    | refine w_nil ?_
    | refine w_cons ?_
    | refine w_cb ?_
    | refine w_call ?_
    | refine w_tup ?_
    | refine w_lst ?_
    | refine w_abs ?_
    | refine w_max2 ?_
    | refine w_min2 ?_
    | refine w_int1 ?_
    | refine w_int1b ?_
    | refine w_gcd ?_
    | refine w_sl ?_
    | refine w_nopart ?_
    | refine w_part ?_
    | refine w_gname ?_
    | refine w_gsub ?_
    | refine w_gcons ?_
    | refine w_gnil ?_
    | refine w_bm ?_
    | refine w_for ?_
    | refine w_lc ?_
    | refine w_iL ?_
    | refine w_iT ?_
    | refine w_iR1 ?_
    | refine w_iR2 ?_
    | refine w_iE ?_
    | refine w_iV ?_
    | refine w_iR3 ?_
    | refine w_tru ?_
    | refine w_bits ?_
    | refine w_asg2 ?_
    | refine w_iS ?_
    | refine w_iSr ?_
    | refine w_tyS ?_
    | refine w_eqS ?_
    | refine w_neS ?_
    | refine w_notInS ?_
    | refine w_starts ?_
    | refine w_dget ?_
    | refine w_dget2 ?_
    | refine w_dput ?_
    | refine w_fld ?_
    | refine w_sfld ?_
    | refine w_iK ?_
    | refine w_callS ?_
    | refine w_mkS ?_
    | refine w_mmS ?_
    | refine w_mm ?_
    | refine w_smS ?_
    | refine w_refl ?_
    | refine w_cbk ?_
    | refine w_iZ ?_
    | refine w_min3 ?_
    | refine w_isiII ?_
    | refine w_isiIB ?_
    | refine w_yes ?_
    | refine w_revS ?_
    | refine w_par3 ?_
    | refine w_three ?_
    | refine w_eqB ?_
    | refine w_orT ?_)
  | ((with_reducible refine' w_var ?e ?_); (case e => with_unfolding_all rfl))
  | (with_reducible refine w_mod (by decide) ?_)
  | (with_reducible refine w_div (by decide) (by decide) ?_)
  | (with_reducible refine w_pow (by decide) (by decide) (by decide) ?_)
  | (with_reducible refine w_mulr (by decide) ?_)
  | (with_reducible refine w_mull (by decide) ?_)
  | ((with_reducible refine' w_addS ?h ?_); (case h => walk_at "sl"))
  | ((with_reducible refine' w_slS ?h ?_); (case h => walk_at "sl"))
  | ((with_reducible refine' w_lenS ?h ?_); (case h => walk_at "sl"))
  | ((with_reducible refine' w_ixL ?h ?e ?_); (case h => exact SqL.of (by assumption)); (case e => with_unfolding_all rfl))
  | ((with_reducible refine' w_ixT ?h ?e ?_); (case h => walk_at "ht"); (case e => with_unfolding_all rfl))
  | ((with_reducible refine' ite_tt ?h ?_); (case h => first | decide | exact rfl))
  | ((with_reducible refine' ite_ff ?h ?_); (case h => first | decide | exact rfl))
  | ((with_reducible refine' w_isiTT ?h ?_); (case h => walk_at "ht"))
  | ((with_reducible refine' w_gtup ?h ?l ?_); (case h => walk_at "ht"); (case l => rfl))
  | ((with_reducible refine' w_iTr ?h ?_); (case h => walk_at "ht"))
  | ((with_reducible refine' w_iLr ?h ?_); (case h => first | exact SqL.of (by assumption) | assumption))
  | ((with_reducible refine' w_lenLi ?h ?_); (case h => assumption))
  | ((with_reducible refine' w_lenTi ?h ?_); (case h => walk_at "ht"))
  | ((with_reducible refine' w_lenT ?h ?_); (case h => walk_at "ht"))
  | ((with_reducible refine' w_lenL ?h ?_); (case h => first | exact SqL.of (by assumption) | assumption)))
local macro_rules | `(tactic| walk_at "ht") => `(tactic| first
  | assumption
  | exact Ch.sqT (by assumption) (by assumption)
  | exact SqT.of (by assumption)
  | exact Ch.sqT (by assumption) (SqT.of (by assumption))
  | exact Ch.sqT (by assumption) (Ch.sqT (by assumption) (by assumption))
  | exact Ch.sqT (by assumption) (Ch.sqT (by assumption) (SqT.of (by assumption)))
  | exact Ch.sqT (by assumption) (Ch.sqT (by assumption) (Ch.sqT (by assumption) (by assumption))))
local macro_rules | `(tactic| walk_at "go") => `(tactic| repeat (walk_at "w1"))
local macro_rules | `(tactic| walk_at "hf") => `(tactic| first
  | assumption
  | (refine Ch.sqT (by assumption) ?_; walk_at "hf")
  | (refine SqL.of ?_; assumption)
  | (refine SqT.of ?_; walk_at "hf")
  | (refine Ch.at0 (by assumption) ?_; walk_at "hf")
  | (refine Ch.sq0 (by assumption) ?_; walk_at "hf")
  | (refine Ch.at1 (by assumption) (by first | assumption | exact Ne.symm (by assumption) | exact ne_of_none (by assumption) (by assumption) | exact Ne.symm (ne_of_none (by assumption) (by assumption))) ?_; walk_at "hf"))
local macro_rules | `(tactic| walk_at "sz") => `(tactic| first
  | assumption
  | (refine sz_le ?_; simp only [List.length_map, List.length_append, List.length_cons, List.length_nil, List.length_replicate, List.length_take, List.length_drop, List.length_range, List.length_set]; omega)
  | (refine sz_lt ?_; simp only [List.length_map, List.length_append, List.length_cons, List.length_nil, List.length_replicate, List.length_take, List.length_drop, List.length_range, List.length_set]; omega))
local macro_rules | `(tactic| walk_at "sl") => `(tactic| first
  | assumption
  | decide +kernel
  | (refine sz_le ?_; (try simp only [PySem.Str.length_append, SX.S_len, List.length_append, List.length_cons, List.length_nil, lenlit]); omega))

namespace My
open PySem PySem.Spec PyProof.Rows L2
section
variable {P : Program} {w : World} {K : PySem.W.Frag} {mg : Str → Option Value} {base : Heap}
abbrev s__law_is_int : Stmt := topS 34
theorem sc__law_is_int : FnScope ["thing"] ["thing"] (defScope s__law_is_int) := ⟨rfl, rfl, rfl, by decide +kernel, rfl, by decide +kernel, by decide +kernel⟩
def sp__law_is_int : Sp := fun vs H Q _ => ∃ i : Int, vs = [.int i] ∧ Q (.bl true) H
theorem c__law_is_int (T : Txt mg) {f : Addr} {fd : FuncData} (F : DefF K mg "_law_is_int" s__law_is_int ["thing"] f fd) : Cal P w K mg base 1 "_law_is_int" sp__law_is_int := by
  refine cal_of F sc__law_is_int (fun vs H Q E h => by obtain ⟨_, rfl, _⟩ := h; rfl) (fun cdv A outer s H vs Q E hr h => ?_)
  obtain ⟨i, rfl, q⟩ := h
  refine ⟨_, (pss_one (ps_ret (pe_and (pe_callB (k_isi (K := K) rfl) (by rfl) T.z_isinstance (by decide +kernel) (pa_cons (pv 0) (pa_cons (pe_bltn (by rfl) T.z_int (by decide +kernel) (v := .ty "int") rfl) pa_nil))) (pe_one (pe_not (pe_callB (k_isi (K := K) rfl) (by rfl) T.z_isinstance (by decide +kernel) (pa_cons (pv 0) (pa_cons (pe_bltn (by rfl) T.z_bool (by decide +kernel) (v := .ty "bool") rfl) pa_nil)))))))), ?_⟩
  refine w_start (σ := [some _]) rfl ?_
  walk_at "go"
  exact q
/-! ### _law_same -/
abbrev s__law_same : Stmt := topS 52
theorem sc__law_same : FnScope ["told", "due", "k"] ["told", "due"] (defScope s__law_same) := ⟨rfl, rfl, rfl, by decide +kernel, rfl, by decide +kernel, by decide +kernel⟩
def sp__law_same (K : PySem.W.Frag) : Sp := fun vs H Q _ => ∃ (a b : Addr) (p r : List Int), vs = [.ref a, .ref b] ∧ SqT K H a (ivs p) ∧ SqT K H b (ivs r) ∧ p.length ≤ 1000 ∧ r.length ≤ 1000 ∧ ∀ H', Ch [] H H' → Q (.bl (decide (p = r))) H'
theorem all_same {p r : List Int} (h : p.length = r.length) : ((List.range r.length).map fun k => decide (coef p k = coef r k)).all id = decide (p = r) := by
  by_cases e : p = r
  · subst e
    rw [decide_eq_true rfl, List.all_eq_true]
    intro x hx
    obtain ⟨k, _, rfl⟩ := List.mem_map.mp hx
    simp
  · rw [decide_eq_false e, Bool.eq_false_iff]
    intro ha
    apply e
    rw [List.all_eq_true] at ha
    apply List.ext_getElem h
    intro k h1 h2
    have := ha _ (List.mem_map.mpr ⟨k, List.mem_range.mpr h2, rfl⟩)
    rw [← coef_lt h1, ← coef_lt h2]
    simpa using this
theorem c__law_same (T : Txt mg) (C__law_is_int : Cal P w K mg base 1 "_law_is_int" sp__law_is_int) {f : Addr} {fd : FuncData} (F : DefF K mg "_law_same" s__law_same ["told", "due"] f fd) : Cal P w K mg base 2 "_law_same" (sp__law_same K) := by
  refine cal_of F sc__law_same (fun vs H Q E h => by obtain ⟨_, _, _, _, rfl, _⟩ := h; rfl) (fun cdv A outer s H vs Q E hr h => ?_)
  obtain ⟨a, b, p, r, rfl, hp, hq, lp, lr, q⟩ := h
  refine ⟨_, (pss_cons (ps_if (PW.pt (pw_or (pt_not (pt_val (pe_callB (k_isi (K := K) rfl) (by rfl) T.z_isinstance (by decide +kernel) (pa_cons (pv 0) (pa_cons (pe_bltn (by rfl) T.z_tuple (by decide +kernel) (v := .ty "tuple") rfl) pa_nil))))) (pw_or1 (pt_cmpR op_ne (pe_callB (k_len (K := K) rfl) (by rfl) T.z_len PySem.boot_len (pa_cons (pv 0) pa_nil)) (pe_callB (k_len (K := K) rfl) (by rfl) T.z_len PySem.boot_len (pa_cons (pv 1) pa_nil)) (nomark _))))) (pss_one (ps_ret pe_bl)) pss_nil)
 (pss_one (ps_ret (pe_callB (k_all (K := K) rfl rfl) (by rfl) T.z_all (by decide +kernel) (pa_cons (pe_lc (own := [("k", 2)]) (g := gName 2) rfl sc__law_same.nd (pi_range1 (by rfl) T.z_range (pa_cons (pe_callB (k_len (K := K) rfl) (by rfl) T.z_len PySem.boot_len (pa_cons (pv 1) pa_nil)) pa_nil)) (blkOk_by (own := [("k", 2)]) (N := ["told", "due", "k"]) (sc := defScope s__law_same) (by decide +kernel)) (fun _ _ _ _ _ => pg_name (i := 2) sc__law_same.nd rfl (Or.inl rfl)) (fun _ _ _ _ _ => pts_nil) (fun _ _ _ _ _ => (pe_and (pe_cc C__law_is_int hr (by decide) (by rfl) (pa_cons (pe_ix (k_ixT (K := K) rfl) (pv 0) (pv 2) (fun _ _ => rfl)) pa_nil)) (pe_one (pe_cmpR op_eq (pe_ix (k_ixT (K := K) rfl) (pv 0) (pv 2) (fun _ _ => rfl)) (pe_ix (k_ixT (K := K) rfl) (pv 1) (pv 2) (fun _ _ => rfl)) (nomark _)))))) pa_nil))))), ?_⟩
  refine w_start (σ := [some _, some _, none]) rfl ?_
  walk_at "go"
  refine ite_nd (fun h0 => ?_) (fun h0 => ?_)
  · walk_at "go"
    have e : p ≠ r := fun e => h0 (by rw [e])
    have q := q _ .refl
    rw [decide_eq_false e] at q
    exact q
  have h1 : p.length = r.length := by omega
  walk_at "go"
  refine w_iR1r (by omega) (by omega) ?_
  refine lc_R (n := r.length) (fun k => .bl (decide (coef p k = coef r k))) rfl (by omega) (fun k H1 hk c S kk => ?_) (fun D H1 nD c hD => ?_)
  · walk_at "go"
    refine w_ixTi (k := k) (c.sqT hp) (by omega) (get_coef (by omega)) ?_
    walk_at "go"
    refine ⟨_, rfl, ?_⟩
    walk_at "go"
    refine w_ixTi (k := k) (c.sqT hp) (by omega) (get_coef (by omega)) ?_
    walk_at "go"
    refine w_ixTi (k := k) (c.sqT hq) (by omega) (get_coef (by omega)) ?_
    walk_at "go"
    exact kk _ .refl
  · walk_at "go"
    refine w_all (bs := (List.range r.length).map fun k => decide (coef p k = coef r k)) (.of (by rw [hD, List.map_map]; rfl)) ?_
    rw [all_same h1]
    exact q _ c
abbrev s__law_power : Stmt := topS 48
theorem sc__law_power : FnScope ["a", "n", "power", "turn"] ["a", "n"] (defScope s__law_power) := ⟨rfl, rfl, rfl, by decide +kernel, rfl, by decide +kernel, by decide +kernel⟩
def sp__law_power : Sp := fun vs H Q _ => ∃ (r : Int) (n : Int) (z : Nat), vs = [.int r, .int n] ∧ r.natAbs < 2 ^ z ∧ z ≤ 500 ∧ 0 ≤ n ∧ n ≤ 90000 ∧ Q (.int (r ^ n.toNat)) H
theorem c__law_power (T : Txt mg) {f : Addr} {fd : FuncData} (F : DefF K mg "_law_power" s__law_power ["a", "n"] f fd) : Cal P w K mg base 1 "_law_power" sp__law_power := by
  refine cal_of F sc__law_power (fun vs H Q E h => by obtain ⟨_, _, _, rfl, _⟩ := h; rfl) (fun cdv A outer s H vs Q E hr h => ?_)
  obtain ⟨r, n, z, rfl, hr', hz, n0, n1, q⟩ := h
  refine ⟨_, (pss_cons (ps_set (i := 2) sc__law_power.nd rfl (Or.inl rfl) pe_int)
 (pss_cons (ps_for PassesOwn.never rfl (pi_range1 (by rfl) T.z_range (pa_cons (pv 1) pa_nil)) (pg_name (i := 3) sc__law_power.nd rfl (Or.inl rfl)) (pss_one (ps_set (i := 2) sc__law_power.nd rfl (Or.inl rfl) (pe_op op_mulG (pv 2) (pv 0)))))
 (pss_one (ps_ret (pv 2))))), ?_⟩
  refine w_start (σ := [some _, some _, none, none]) rfl ?_
  walk_at "go"
  refine w_iR1r (by omega) (by omega) ?_
  refine for_R (n := n.toNat) (fun i σ H' => H' = H ∧ ∃ y, σ = [some (.int r), some (.int n), some (.int (r ^ i)), y]) ⟨rfl, none, by rw [Int.pow_zero]; rfl⟩ ?_ ?_
  · rintro i σ H' hi ⟨rfl, y, rfl⟩
    have b1 : z * i ≤ 500 * 90000 := Nat.mul_le_mul hz (by omega)
    walk_at "go"
    refine w_I (mul_ok (abs_pow_lt hr') hr' (by omega)) ?_
    exact ⟨rfl, _, by rw [Int.pow_succ]; rfl⟩
  · rintro σ H' ⟨rfl, y, rfl⟩
    walk_at "go"
    exact q
abbrev s__law_gather : Stmt := topS 37
theorem sc__law_gather : FnScope ["terms", "found", "c", "i", "j", "k", "rows", "one"] ["terms"] (defScope s__law_gather) := ⟨rfl, rfl, rfl, by decide +kernel, rfl, by decide +kernel, by decide +kernel⟩
def sp__law_gather (K : PySem.W.Frag) : Sp := fun vs H Q _ => ∃ (a : Addr) (ts : List Tm), vs = [.ref a] ∧ TmL K H a ts ∧ ts.length < 900000 ∧ ∀ t H' us, Nf us → (∀ e, cf us e = cf ts e) → Ch [] H H' → TmT K H' t us → (∃ xs, H' t = some (.tup xs)) → Q (.ref t) H'
theorem c__law_gather (T : Txt mg) {f : Addr} {fd : FuncData} (F : DefF K mg "_law_gather" s__law_gather ["terms"] f fd) : Cal P w K mg base 1 "_law_gather" (sp__law_gather K) := by
  refine cal_of F sc__law_gather (fun vs H Q E h => by obtain ⟨_, _, rfl, _⟩ := h; rfl) (fun cdv A outer s H vs Q E hr h => ?_)
  obtain ⟨a, ts, rfl, ⟨xs, hx, hm⟩, hl, q⟩ := h
  refine ⟨_, (pss_cons (ps_set (i := 1) sc__law_gather.nd rfl (Or.inr rfl) pe_dnewT)
 (pss_cons (ps_for PassesOwn.never rfl (k_piL (K := K) rfl (pv 0)) (k_gtup (K := K) (n := 4) rfl rfl (pgs_cons (pg_name (i := 2) sc__law_gather.nd rfl (Or.inl rfl)) (pgs_cons (pg_name (i := 3) sc__law_gather.nd rfl (Or.inl rfl)) (pgs_cons (pg_name (i := 4) sc__law_gather.nd rfl (Or.inl rfl)) (pgs_cons (pg_name (i := 5) sc__law_gather.nd rfl (Or.inl rfl)) pgs_nil))))) (pss_one (ps_dput (hu_of hr) (pv 1) (pe_tup (pa_cons (pv 3) (pa_cons (pv 4) (pa_cons (pv 5) pa_nil)))) (pe_op op_add (pe_dget2 (hu_of hr) (pv 1) (pe_tup (pa_cons (pv 3) (pa_cons (pv 4) (pa_cons (pv 5) pa_nil)))) pe_int ⟨rfl, rfl, rfl, rfl⟩) (pv 2)) rfl)))
 (pss_cons (ps_lock (ps_setLc (i := 6) (own := [("one", 7)]) (g := gName 7) rfl sc__law_gather.nd rfl rfl (sw_true rfl rfl rfl (by decide +kernel)) (pi_keys (pv 1)) (blkOk_by (own := [("one", 7)]) (N := ["terms", "found", "c", "i", "j", "k", "rows", "one"]) (sc := defScope s__law_gather) (by decide +kernel)) (fun _ _ _ _ _ => pg_name (i := 7) sc__law_gather.nd rfl (Or.inl rfl)) (fun _ _ _ _ _ => (pts_one (pt_cmpR op_ne (pe_dget (hu_of hr) (pv 1) (pv 7) (fun _ _ => rfl)) pe_int (nomark _)))) (fun _ _ _ _ _ => (pe_tup (pa_cons (pe_op op_add (pe_op op_add (pe_ix (k_ixT (K := K) rfl) (pv 7) pe_int (fun _ _ => rfl)) (pe_ix (k_ixT (K := K) rfl) (pv 7) pe_int (fun _ _ => rfl))) (pe_ix (k_ixT (K := K) rfl) (pv 7) pe_int (fun _ _ => rfl))) (pa_cons (pe_ix (k_ixT (K := K) rfl) (pv 7) pe_int (fun _ _ => rfl)) (pa_cons (pe_ix (k_ixT (K := K) rfl) (pv 7) pe_int (fun _ _ => rfl)) (pa_cons (pe_ix (k_ixT (K := K) rfl) (pv 7) pe_int (fun _ _ => rfl)) pa_nil))))))))
 (pss_one (ps_ret (pe_callTy (k_tuple (K := K) rfl) (by rfl) T.z_tuple (by decide +kernel) (pa_cons (pe_lc (own := [("one", 7)]) (g := gName 7) rfl sc__law_gather.nd (k_piL (K := K) rfl (pe_callBK (k_sort (K := K) rfl) (by rfl) T.z_sorted (by decide +kernel) (pa_cons (pv 6) pa_nil) (pk_cons pe_bl pk_nil))) (blkOk_by (own := [("one", 7)]) (N := ["terms", "found", "c", "i", "j", "k", "rows", "one"]) (sc := defScope s__law_gather) (by decide +kernel)) (fun _ _ _ _ _ => pg_name (i := 7) sc__law_gather.nd rfl (Or.inl rfl)) (fun _ _ _ _ _ => pts_nil) (fun _ _ _ _ _ => (pe_tup (pa_cons (pe_dget (hu_of hr) (pv 1) (pe_slice (k_slT (K := K) rfl) (pv 7) (po_some pe_int) po_none) (fun _ _ => rfl)) (pa_cons (pe_ix (k_ixT (K := K) rfl) (pv 7) pe_int (fun _ _ => rfl)) (pa_cons (pe_ix (k_ixT (K := K) rfl) (pv 7) pe_int (fun _ _ => rfl)) (pa_cons (pe_ix (k_ixT (K := K) rfl) (pv 7) pe_int (fun _ _ => rfl)) pa_nil))))))) pa_nil))))))), ?_⟩
  refine w_start (σ := [some _, none, none, none, none, none, none, none]) rfl ?_
  walk_at "go"
  refine w_dnewT fun d H1 n1 c1 h1 => ?_
  walk_at "go"
  refine w_iLr (.of (c1.at0 hx)) ?_
  refine for_eL (E := Tme K) (ls := ts) (xs := xs) (Pv := fun i σ H' => Ch [] H H' ∧ H' d = some (.dT (dvT (adds 1 [] (ts.take i)))) ∧ ∃ z1 z2 z3 z4 z5 z6, σ = [some (.ref a), some (.ref d), z1, z2, z3, z4, z5, z6]) hm.len ⟨c1, h1, _, _, _, _, _, _, rfl⟩ (fun i σ H' _ h => ⟨.of (h.1.at0 hx), hm.chm h.1⟩) ?_ ?_
  · rintro i t x σ H' ht ⟨c, hd, z1, z2, z3, z4, z5, z6, rfl⟩ hx
    obtain ⟨b, rfl, hb⟩ := hx
    walk_at "go"
    refine risd (.of hd) ?_
    walk_at "go"
    refine w_newT (show 3 ≤ sizeLine by decide) fun p H2 n2 c2 h2 => ?_
    walk_at "go"
    refine rget2 (e := t.e) (.of (c2.at0 hd)) h2 ?_
    walk_at "go"
    refine w_newT (show 3 ≤ sizeLine by decide) fun p3 H3 n3 c3 h3 => ?_
    have l1 := adds_len 1 [] (ts.take i)
    rw [List.length_take] at l1
    refine rput (e := t.e) (adds_ok 1 .nil _) ((c2.trans c3).at0 hd) h3 (by have := lt_of_get ht; simp only [List.length_nil] at *; omega) ?_
    refine ⟨(c.trans (c2.trans c3)).put n1, ?_, _, _, _, _, _, _, rfl⟩
    rw [take_snoc ht, adds_snoc, Int.one_mul]
    exact upd_same
  rintro σ H' ⟨c, hd, z1, z2, z3, z4, z5, z6, rfl⟩
  rw [List.take_length] at hd
  have ok := adds_ok 1 TbOk.nil ts
  have tl := adds_len 1 [] ts
  have cfs : ∀ e, get0 (adds 1 [] ts) e = cf ts e := fun e => by rw [adds_get, get0_nil, Int.zero_add, Int.one_mul]
  generalize adds 1 [] ts = tb at hd ok tl cfs
  simp only [List.length_nil] at tl
  walk_at "go"
  refine w_lockS hd fun od H1 e1 => ?_
  have hf : H1 d = some (.frz od (.dT (dvT tb))) := by rw [e1]; exact upd_same
  walk_at "go"
  refine w_iKr hf ?_
  refine lc_e tb (walk_keysT (kvs := dvT tb)) (dvT_len tb).symm (fun p => decide (p.2 ≠ 0)) (fun p v H => TuN (exr p.1) v H) (fun _ _ _ _ _ c h => h.ch c) (fun H' c => c.frz hf) (by rw [dvT_len]; omega) ?_ ?_
  · rintro k p x H2 H3 hp c2 ⟨rfl, kk, v, b, g1, rfl, hb⟩ Nx A1 hN hA
    have e2 : kk = (exl p.1).map Sum.inl ∧ v = .int p.2 := by
      have : (dvT tb)[k]? = some ((exl p.1).map Sum.inl, V.int p.2) := by
        unfold dvT
        rw [List.getElem?_map, hp]
        rfl
      rw [this] at g1
      cases g1
      exact ⟨rfl, rfl⟩
    obtain ⟨rfl, rfl⟩ := e2
    have hb : H3 b = some (.tup [.int p.1.1, .int p.1.2.1, .int p.1.2.2]) := hb
    walk_at "go"
    refine ⟨rfl, ?_⟩
    walk_at "go"
    refine rget (e := p.1) (.inr ⟨od, c2.frz hf⟩) hb (ok.get (List.mem_of_getElem? hp)) ?_
    walk_at "go"
    refine ite_nd (fun h0 => ?_) (fun h0 => ?_)
    · walk_at "go"
      refine w_newT (show 4 ≤ sizeLine by decide) fun b3 H5 n5 c5 h5 => ?_
      exact hA _ H5 c5 (by simpa using h0) ⟨b3, rfl, h5⟩
    · exact hN H3 .refl (by simpa using h0)
  · intro D H2 out nD c2 hD el
    rw [e1] at c2 nD
    have hf2 : H2 d = some (.frz od (.dT (dvT tb))) := c2.frz upd_same
    have nd : D ≠ d := fun z => by rw [z, upd_same] at nD; cases nD
    walk_at "go"
    refine ⟨hf2, ?_⟩
    have c3 : Ch [] H' (L2.upd H2 d (.dT (dvT tb))) := Ch.unlock hd c2
    have hd3 : L2.upd H2 d (.dT (dvT tb)) d = some (.dT (dvT tb)) := upd_same
    have hD3 : L2.upd H2 d (.dT (dvT tb)) D = some (.lst out) := by rw [upd_ne nd]; exact hD
    have el3 : Els (fun p v H => TuN (exr p.1) v H) (L2.upd H2 d (.dT (dvT tb))) out (tb.filter fun p => decide (p.2 ≠ 0)) := el.imp fun l v _ h => by
      obtain ⟨a, e, h⟩ := h
      refine ⟨a, e, ?_⟩
      rw [upd_ne (fun z => by rw [z, hf2] at h; cases h)]
      exact h
    generalize L2.upd H2 d (.dT (dvT tb)) = H3 at c3 hd3 hD3 el3
    walk_at "go"
    refine ⟨D, out, kOf H3, rfl, rfl, .of hD3, fun x hx => ?_, fun ys l hp hs nl => ?_⟩
    · obtain ⟨p, _, a, rfl, h⟩ := els_mem el3 hx
      refine ⟨a, rfl, ?_⟩
      rw [kOf_of ⟨a, rfl, h⟩]
      exact ⟨.of h, fun z => nomatch z⟩
    obtain ⟨es, pe, se, ee⟩ := sort_rows el3 hp hs
    obtain ⟨nf, cfe⟩ := in_order ok pe se
    have c4 : Ch [] H3 (L2.upd H3 l (.lst ys)) := Ch.new nl
    have hl4 : L2.upd H3 l (.lst ys) l = some (.lst ys) := upd_same
    have ee4 : Els (fun e v H => TuN (exr e) v H) (L2.upd H3 l (.lst ys)) ys es := ee.imp fun _ _ _ h => h.ch c4
    have hd4 := c4.at0 hd3
    generalize L2.upd H3 l (.lst ys) = H4 at c4 hl4 ee4 hd4
    walk_at "go"
    have les : es.length < 900000 := by
      rw [pe.length_eq]
      exact Nat.lt_of_le_of_lt (kept_len tb) (by omega)
    refine lc_e es (walk_list (K := K) (a := l) (xs := ys)) ee4.len.symm (fun _ => true) (fun e v H => Tme K ⟨get0 tb e, e.1, e.2.1, e.2.2⟩ v H) (fun _ _ _ _ _ c h => h.ch c) (fun H' c => .of (c.at0 hl4)) (by rw [ee4.len]; omega) ?_ ?_
    · rintro k e x H5 H6 he c5 ⟨rfl, hx⟩ Nx A1 hN hA
      obtain ⟨a, rfl, ha⟩ : TuN (exr e) x H6 := by
        obtain ⟨v, e1, e2⟩ := ee4.at_ k e he
        rw [hx] at e1
        cases e1
        exact e2.ch c5
      have ha : H6 a = some (.tup [.int (e.1 + e.2.1 + e.2.2), .int e.1, .int e.2.1, .int e.2.2]) := ha
      walk_at "go"
      refine ⟨rfl, ?_⟩
      walk_at "go"
      refine w_slTn (.of ha) (fun z => absurd z.1 (show ¬ HT.sIx 4 0 (some 1) = 0 by decide)) fun b2 H7 n7 c7 h7 => ?_
      have h7 : H7 b2 = some (.tup (ivs (exl e))) := by rw [h7, cutV_from (i := 1) (k := 1) rfl]; rfl
      refine rget (e := e) (.of (c7.at0 (c5.at0 hd4))) h7 (getT_of ((mem_kept ok).mp (pe.mem_iff.mp (List.mem_of_getElem? he)))) ?_
      have ha7 := c7.tup ha
      walk_at "go"
      refine w_newT (show 4 ≤ sizeLine by decide) fun b3 H8 n8 c8 h8 => ?_
      exact hA _ H8 (c7.trans c8) rfl ⟨b3, rfl, .of h8⟩
    · intro D2 H5 out2 nD2 c5 hD2 el2
      rw [filter_yes] at el2
      walk_at "go"
      refine w_tupleL (.of hD2) fun t H6 n6 c6 h6 => ?_
      refine q t H6 _ nf (fun e => by rw [cfe, cfs]) (c.trans (c3.trans (c4.trans (c5.trans c6)))) ⟨out2, .of h6, ?_⟩ ⟨_, h6⟩
      exact (el2.map (F := Tme K) (f := fun e => ⟨get0 tb e, e.1, e.2.1, e.2.2⟩) fun _ _ _ h => h).chm c6
end
end My
namespace My
open PySem PySem.Spec PyProof.Rows L2
section
variable {P : Program} {w : World} {K : PySem.W.Frag} {mg : Str → Option Value} {base : Heap}
abbrev s__law_join : Stmt := topS 38
theorem sc__law_join : FnScope ["a", "b", "scale", "c", "i", "j", "k"] ["a", "b", "scale"] (defScope s__law_join) := ⟨rfl, rfl, rfl, by decide +kernel, rfl, by decide +kernel, by decide +kernel⟩
def sp__law_join (K : PySem.W.Frag) : Sp := fun vs H Q _ => ∃ (a b : Addr) (s : Int) (ts us : List Tm), vs = [.ref a, .ref b, .int s] ∧ TmT K H a ts ∧ TmT K H b us ∧ s.natAbs < 2 ^ 63 ∧ ts.length + us.length < 800000 ∧
  ∀ t H' rs, Nf rs → (∀ e, cf rs e = cf ts e + s * cf us e) → Ch [] H H' → TmT K H' t rs → Q (.ref t) H'
theorem c__law_join (T : Txt mg) (C__law_gather : Cal P w K mg base 1 "_law_gather" (sp__law_gather K)) {f : Addr} {fd : FuncData} (F : DefF K mg "_law_join" s__law_join ["a", "b", "scale"] f fd) : Cal P w K mg base 2 "_law_join" (sp__law_join K) := by
  refine cal_of F sc__law_join (fun vs H Q E h => by obtain ⟨_, _, _, _, _, rfl, _⟩ := h; rfl) (fun cdv A outer s H vs Q E hr h => ?_)
  obtain ⟨a, b, s0, ts, us, rfl, ⟨xs, ha, hm⟩, ⟨ys, hb, hn⟩, hs, hl, q⟩ := h
  refine ⟨_, (pss_one (ps_ret (pe_cc C__law_gather hr (by decide) (by rfl) (pa_cons (pe_op op_cat (pe_callTy (k_list (K := K) rfl) (by rfl) T.z_list (by decide +kernel) (pa_cons (pv 0) pa_nil)) (pe_lc (own := [("c", 3), ("i", 4), ("j", 5), ("k", 6)]) (g := gTup K 4 (gCons (gName 3) (gCons (gName 4) (gCons (gName 5) (gCons (gName 6) gNil))))) rfl sc__law_join.nd (k_piT (K := K) rfl (pv 1)) (blkOk_by (own := [("c", 3), ("i", 4), ("j", 5), ("k", 6)]) (N := ["a", "b", "scale", "c", "i", "j", "k"]) (sc := defScope s__law_join) (by decide +kernel)) (fun _ _ _ _ _ => k_gtup (K := K) rfl rfl (pgs_cons (pg_name (i := 3) sc__law_join.nd rfl (Or.inl rfl)) (pgs_cons (pg_name (i := 4) sc__law_join.nd rfl (Or.inl rfl)) (pgs_cons (pg_name (i := 5) sc__law_join.nd rfl (Or.inl rfl)) (pgs_cons (pg_name (i := 6) sc__law_join.nd rfl (Or.inl rfl)) pgs_nil))))) (fun _ _ _ _ _ => pts_nil) (fun _ _ _ _ _ => (pe_tup (pa_cons (pe_op op_mulG (pv 2) (pv 3)) (pa_cons (pv 4) (pa_cons (pv 5) (pa_cons (pv 6) pa_nil)))))))) pa_nil)))), ?_⟩
  refine w_start (σ := [some _, some _, some _, none, none, none, none]) rfl ?_
  walk_at "go"
  refine w_listT ha fun l H1 n1 c1 h1 => ?_
  walk_at "go"
  refine lc_e us (walk_tup (K := K) (a := b) (xs := ys)) hn.len.symm (fun _ => true) (fun t v H => Tme K (t.scale s0) v H) (fun _ _ _ _ _ c h => h.ch c) (fun H' c => (c1.trans c).sqT hb) (by rw [hn.len]; omega) ?_ ?_
  · rintro k t x H5 H6 ht c5 ⟨rfl, hx⟩ Nx A1 hN hA
    obtain ⟨v, e1, b1, rfl, hb1⟩ := hn.at_ k t ht
    rw [hx] at e1
    cases e1
    have hb1 := (c1.trans c5).sqT hb1
    walk_at "go"
    refine ⟨rfl, ?_⟩
    walk_at "go"
    refine w_I (mul_ok_l hs) ?_
    walk_at "go"
    refine w_newT (show 4 ≤ sizeLine by decide) fun b3 H8 n8 c8 h8 => ?_
    exact hA _ H8 c8 rfl ⟨b3, rfl, .of h8⟩
  · intro D H2 out nD c2 hD el
    rw [filter_yes] at el
    have big : (800000 : Nat) ≤ sizeLine := by decide
    refine w_cat (c2.at0 h1) hD (by rw [hm.len, el.len]; omega) fun m H4 n4 c4 h4 => ?_
    walk_at "go"
    have em : Tms K H4 (xs ++ out) (ts ++ us.map (Tm.scale s0)) := (((hm.chm c1).chm c2).chm c4).app ((el.map (F := Tme K) (f := Tm.scale s0) fun _ _ _ h => h).chm c4)
    refine ⟨m, _, rfl, ⟨_, h4, em⟩, by rw [List.length_append, List.length_map]; omega, fun t H5 rs nf ce c5 ht _ => ?_⟩
    exact q t H5 rs nf (fun e => by rw [ce, cf_append, cf_scale]) (c1.trans (c2.trans (c4.trans c5))) ht
abbrev s__law_multiply : Stmt := topS 39
theorem sc__law_multiply : FnScope ["a", "b", "terms", "c", "i", "j", "k", "e", "u", "v", "w"] ["a", "b"] (defScope s__law_multiply) := ⟨rfl, rfl, rfl, by decide +kernel, rfl, by decide +kernel, by decide +kernel⟩
def sp__law_multiply (K : PySem.W.Frag) : Sp := fun vs H Q _ => ∃ (a b : Addr) (ts us : List Tm), vs = [.ref a, .ref b] ∧ TmT K H a ts ∧ TmT K H b us ∧ ts.length * us.length + us.length < 800000 ∧ (∀ t ∈ ts, ∀ u ∈ us, IntMulOk t.c u.c) ∧
  ∀ t H' rs, Nf rs → (∀ e, cf rs e = cf (mulT ts us) e) → Ch [] H H' → TmT K H' t rs → Q (.ref t) H'
theorem c__law_multiply (C__law_gather : Cal P w K mg base 1 "_law_gather" (sp__law_gather K)) {f : Addr} {fd : FuncData} (F : DefF K mg "_law_multiply" s__law_multiply ["a", "b"] f fd) : Cal P w K mg base 2 "_law_multiply" (sp__law_multiply K) := by
  refine cal_of F sc__law_multiply (fun vs H Q E h => by obtain ⟨_, _, _, _, rfl, _⟩ := h; rfl) (fun cdv A outer s H vs Q E hr h => ?_)
  obtain ⟨a, b, ts, us, rfl, ⟨xs, ha, hm⟩, ⟨ys, hb, hn⟩, hl, hu, q⟩ := h
  refine ⟨_, (pss_cons (ps_set (i := 2) sc__law_multiply.nd rfl (Or.inl rfl) (pe_lst pa_nil))
 (pss_cons (ps_for PassesOwn.never rfl (k_piT (K := K) rfl (pv 0)) (k_gtup (K := K) (n := 4) rfl rfl (pgs_cons (pg_name (i := 3) sc__law_multiply.nd rfl (Or.inl rfl)) (pgs_cons (pg_name (i := 4) sc__law_multiply.nd rfl (Or.inl rfl)) (pgs_cons (pg_name (i := 5) sc__law_multiply.nd rfl (Or.inl rfl)) (pgs_cons (pg_name (i := 6) sc__law_multiply.nd rfl (Or.inl rfl)) pgs_nil))))) (pss_one (ps_for PassesOwn.never rfl (k_piT (K := K) rfl (pv 1)) (k_gtup (K := K) (n := 4) rfl rfl (pgs_cons (pg_name (i := 7) sc__law_multiply.nd rfl (Or.inl rfl)) (pgs_cons (pg_name (i := 8) sc__law_multiply.nd rfl (Or.inl rfl)) (pgs_cons (pg_name (i := 9) sc__law_multiply.nd rfl (Or.inl rfl)) (pgs_cons (pg_name (i := 10) sc__law_multiply.nd rfl (Or.inl rfl)) pgs_nil))))) (pss_one (ps_expr (pe_bm PySem.F.plainAttrs_list PySem.F.slot_list_append PySem.F.type_list_append mt_append (pv 2) (pa_cons (pe_tup (pa_cons (pe_op op_mulG (pv 3) (pv 7)) (pa_cons (pe_op op_add (pv 4) (pv 8)) (pa_cons (pe_op op_add (pv 5) (pv 9)) (pa_cons (pe_op op_add (pv 6) (pv 10)) pa_nil))))) pa_nil)))))))
 (pss_one (ps_ret (pe_cc C__law_gather hr (by decide) (by rfl) (pa_cons (pv 2) pa_nil)))))), ?_⟩
  refine w_start (σ := [some _, some _, none, none, none, none, none, none, none, none, none]) rfl ?_
  have big : (800000 : Nat) ≤ sizeLine := by decide
  walk_at "go"
  refine w_newL (show 0 ≤ sizeLine by decide) fun l H1 n1 c1 h1 => ?_
  walk_at "go"
  refine for_eT (E := Tme K) (ls := ts) (Pv := fun i σ H' => Ch [] H H' ∧ TmL K H' l (mulT (ts.take i) us) ∧ ∃ z1 z2 z3 z4 z5 z6 z7 z8, σ = [some (.ref a), some (.ref b), some (.ref l), z1, z2, z3, z4, z5, z6, z7, z8]) hm.len ⟨c1, ⟨[], h1, Els.nil⟩, _, _, _, _, _, _, _, _, rfl⟩ (fun i σ H' _ h => ⟨h.1.sqT ha, hm.chm h.1⟩) ?_ ?_
  · rintro i t x σ H' ht ⟨c, hd, z1, z2, z3, z4, z5, z6, z7, z8, rfl⟩ hx
    obtain ⟨b1, rfl, hb1⟩ := hx
    walk_at "go"
    refine for_eT (E := Tme K) (ls := us) (Pv := fun j σ H' => Ch [] H H' ∧ TmL K H' l (mulT (ts.take i) us ++ (us.take j).map t.mul) ∧ ∃ z5 z6 z7 z8, σ = [some (.ref a), some (.ref b), some (.ref l), some (.int t.c), some (.int t.i), some (.int t.j), some (.int t.k), z5, z6, z7, z8]) hn.len ⟨c, by simpa using hd, _, _, _, _, rfl⟩ (fun i σ H' _ h => ⟨h.1.sqT hb, hn.chm h.1⟩) ?_ ?_
    · rintro j u x σ H2 hj ⟨c, ⟨zs, hl2, em⟩, z5, z6, z7, z8, rfl⟩ hx
      obtain ⟨b2, rfl, hb2⟩ := hx
      walk_at "go"
      refine ⟨.inl ⟨rfl, _, .of hl2⟩, ?_⟩
      walk_at "go"
      refine w_I (hu t (List.mem_of_getElem? ht) u (List.mem_of_getElem? hj)) ?_
      walk_at "go"
      refine w_newT (show 4 ≤ sizeLine by decide) fun p H3 n3 c3 h3 => ?_
      walk_at "go"
      refine w_append (c3.at0 hl2) ?_ fun H4 c4 h4 => ?_
      · rw [em.len, List.length_append, len_mul, List.length_map, List.length_take, List.length_take]
        have a := lt_of_get ht
        have b := lt_of_get hj
        have : min i ts.length * us.length ≤ ts.length * us.length := Nat.mul_le_mul_right _ (Nat.min_le_right _ _)
        omega
      refine ⟨(c.trans c3).cut n1 c4, ⟨_, h4, ?_⟩, _, _, _, _, rfl⟩
      rw [take_snoc hj, List.map_append, ← List.append_assoc]
      exact ((em.chm c3).chm c4).snoc ⟨p, rfl, c4.sqT (.of h3)⟩
    · rintro σ H2 ⟨c, hd, z5, z6, z7, z8, rfl⟩
      refine ⟨c, ?_, _, _, _, _, _, _, _, _, rfl⟩
      rw [List.take_length] at hd
      have e : mulT (ts.take (i + 1)) us = mulT (ts.take i) us ++ us.map t.mul := by
        rw [take_snoc ht]
        unfold mulT
        rw [List.flatMap_append]
        simp
      rw [e]
      exact hd
  · rintro σ H' ⟨c, hd, z1, z2, z3, z4, z5, z6, z7, z8, rfl⟩
    rw [List.take_length] at hd
    walk_at "go"
    refine ⟨l, _, rfl, hd, by rw [len_mul]; omega, fun t H5 rs nf ce c5 ht _ => ?_⟩
    exact q t H5 rs nf ce (c.trans c5) ht
abbrev s__law_is : Stmt := topS 40
theorem sc__law_is : FnScope ["told", "due", "k", "term", "one"] ["told", "due"] (defScope s__law_is) := ⟨rfl, rfl, rfl, by decide +kernel, rfl, by decide +kernel, by decide +kernel⟩
def sp__law_is (K : PySem.W.Frag) (C : Addr) : Sp := fun vs H Q _ => ∃ (p t : Addr) (ts : List Tm), vs = [.ref p, .ref t] ∧ Po K C H p ts ∧ TmT K H t ts ∧ ts.length < 800000 ∧ ∀ H', Ch [] H H' → Q (.bl true) H'
theorem c__law_is {A_Poly : Addr} (T : Txt mg) (T_P : PolyK K mg A_Poly) (C__law_is_int : Cal P w K mg base 1 "_law_is_int" sp__law_is_int) {f : Addr} {fd : FuncData} (F : DefF K mg "_law_is" s__law_is ["told", "due"] f fd) : Cal P w K mg base 2 "_law_is" (sp__law_is K A_Poly) := by
  refine cal_of F sc__law_is (fun vs H Q E h => by obtain ⟨_, _, _, rfl, _⟩ := h; rfl) (fun cdv A outer s H vs Q E hr h => ?_)
  obtain ⟨p, t, ts, rfl, ⟨dx, t0, hp, xs, hx, hm⟩, ⟨ys, hy, hn⟩, hl, q⟩ := h
  refine ⟨_, (pss_cons (ps_if (PW.pt (pw_or (pt_not (pt_val (pe_callB (k_isi (K := K) rfl) (by rfl) T.z_isinstance (by decide +kernel) (pa_cons (pv 0) (pa_cons (pe_glob (v := .ref A_Poly) (by rfl) T_P.gl rfl) pa_nil))))) (pw_or (pt_not (pt_val (pe_callB (k_isi (K := K) rfl) (by rfl) T.z_isinstance (by decide +kernel) (pa_cons (k_fld (K := K) rfl (pv 0)) (pa_cons (pe_bltn (by rfl) T.z_tuple (by decide +kernel) (v := .ty "tuple") rfl) pa_nil))))) (pw_or1 (pt_cmpR op_ne (pe_callB (k_len (K := K) rfl) (by rfl) T.z_len PySem.boot_len (pa_cons (k_fld (K := K) rfl (pv 0)) pa_nil)) (pe_callB (k_len (K := K) rfl) (by rfl) T.z_len PySem.boot_len (pa_cons (pv 1) pa_nil)) (nomark _)))))) (pss_one (ps_ret pe_bl)) pss_nil)
 (pss_cons (ps_for PassesOwn.never rfl (pi_range1 (by rfl) T.z_range (pa_cons (pe_callB (k_len (K := K) rfl) (by rfl) T.z_len PySem.boot_len (pa_cons (pv 1) pa_nil)) pa_nil)) (pg_name (i := 2) sc__law_is.nd rfl (Or.inl rfl)) (pss_cons (ps_set (i := 3) sc__law_is.nd rfl (Or.inl rfl) (pe_ix (k_ixT (K := K) rfl) (k_fld (K := K) rfl (pv 0)) (pv 2) (fun _ _ => rfl)))
 (pss_cons (ps_if (PW.pt (pw_or (pt_not (pt_val (pe_callB (k_isi (K := K) rfl) (by rfl) T.z_isinstance (by decide +kernel) (pa_cons (pv 3) (pa_cons (pe_bltn (by rfl) T.z_tuple (by decide +kernel) (v := .ty "tuple") rfl) pa_nil))))) (pw_or1 (pt_cmpR op_ne (pe_callB (k_len (K := K) rfl) (by rfl) T.z_len PySem.boot_len (pa_cons (pv 3) pa_nil)) pe_int (nomark _))))) (pss_one (ps_ret pe_bl)) pss_nil)
 (pss_one (ps_if (PW.pt (pw_or (pt_not (pt_val (pe_callB (k_all (K := K) rfl rfl) (by rfl) T.z_all (by decide +kernel) (pa_cons (pe_lc (own := [("one", 4)]) (g := gName 4) rfl sc__law_is.nd (k_piT (K := K) rfl (pv 3)) (blkOk_by (own := [("one", 4)]) (N := ["told", "due", "k", "term", "one"]) (sc := defScope s__law_is) (by decide +kernel)) (fun _ _ _ _ _ => pg_name (i := 4) sc__law_is.nd rfl (Or.inl rfl)) (fun _ _ _ _ _ => pts_nil) (fun _ _ _ _ _ => (pe_cc C__law_is_int hr (by decide) (by rfl) (pa_cons (pv 4) pa_nil)))) pa_nil)))) (pw_or1 (pt_cmpR (k_neD (K := K) rfl hr.units) (pv 3) (pe_ix (k_ixT (K := K) rfl) (pv 1) (pv 2) (fun _ _ => rfl)) (nomark _))))) (pss_one (ps_ret pe_bl)) pss_nil)))))
 (pss_one (ps_ret pe_bl)))), ?_⟩
  refine w_start (σ := [some _, some _, none, none, none]) rfl ?_
  walk_at "go"
  refine w_isiP T_P hp ?_
  walk_at "go"
  refine rfld T_P hp ?_
  walk_at "go"
  refine rfld T_P hp ?_
  walk_at "go"
  refine ite_ndf (by rw [hm.len, hn.len]) ?_
  walk_at "go"
  rw [hn.len]
  refine w_iR1r (by omega) (by omega) ?_
  refine for_R (n := ts.length) (fun i σ H' => Ch [] H H' ∧ ∃ z1 z2 z3, σ = [some (.ref p), some (.ref t), z1, z2, z3]) ⟨.refl, _, _, _, rfl⟩ ?_ ?_
  · rintro i σ H' hi ⟨c, z1, z2, z3, rfl⟩
    obtain ⟨u, hu⟩ : ∃ u, ts[i]? = some u := ⟨_, List.getElem?_eq_getElem hi⟩
    obtain ⟨v, e1, b1, rfl, hb1⟩ := hm.at_ i u hu
    obtain ⟨v, e2, b2, rfl, hb2⟩ := hn.at_ i u hu
    have hb1 := c.sqT hb1
    walk_at "go"
    refine rfld T_P (c.ins hp) ?_
    walk_at "go"
    refine w_ixT (c.sqT hx) (atI_at (k := i) (by omega) e1) ?_
    walk_at "go"
    have w4 : Walk (Itt K b1) 4 (fun H => SqT K H b1 (ivs [u.c, u.i, u.j, u.k])) (YAt (ivs [u.c, u.i, u.j, u.k])) := walk_tup (K := K) (a := b1) (xs := ivs [u.c, u.i, u.j, u.k])
    refine lc_e [u.c, u.i, u.j, u.k] w4 rfl (fun _ => true) (fun n v H => v = .bl true) (fun _ _ _ _ _ _ h => h) (fun H' c => c.sqT hb1) (show 4 < 1000000 by decide) ?_ ?_
    · rintro k n x H5 H6 hn c5 ⟨rfl, hx⟩ Nx A1 hN hA
      obtain ⟨z, hz, rfl⟩ := ivs_get_inv hx
      rw [hz] at hn
      cases hn
      walk_at "go"
      refine ⟨rfl, ?_⟩
      walk_at "go"
      refine ⟨_, rfl, ?_⟩
      exact hA _ H6 .refl rfl rfl
    · intro D H3 out nD c3 hD el
      rw [filter_yes] at el
      have eo : out = ([true, true, true, true] : List Bool).map V.bl := by
        have := els_map (f := fun v => v) (g := fun _ => V.bl true) el (fun _ _ _ h => h)
        rw [List.map_id'] at this
        exact this
      subst eo
      walk_at "go"
      refine w_all (bs := [true, true, true, true]) (.of hD) ?_
      walk_at "go"
      refine w_ixT (c3.sqT (c.sqT hy)) (atI_at (k := i) (by omega) e2) ?_
      refine w_neTm1 (t := u) (u := u) (c3.sqT hb1) (c3.sqT (c.sqT hb2)) ?_
      refine ⟨_, rfl, ?_⟩
      refine ite_ndf rfl ?_
      walk_at "go"
      exact ⟨c.trans c3, _, _, _, rfl⟩
  · rintro σ H' ⟨c, z1, z2, z3, rfl⟩
    walk_at "go"
    exact q H' c
abbrev s__law_moved : Stmt := topS 50
theorem sc__law_moved : FnScope ["term", "at", "power"] ["term", "at", "power"] (defScope s__law_moved) := ⟨rfl, rfl, rfl, by decide +kernel, rfl, by decide +kernel, by decide +kernel⟩
def sp__law_moved (K : PySem.W.Frag) : Sp := fun vs H Q _ => ∃ (a : Addr) (n : Nat) (at_ p : Int) (t : Tm), vs = [.ref a, .int at_, .int p] ∧ at_ = (n : Int) + 1 ∧ n < 3 ∧ SqT K H a [.int t.c, .int t.i, .int t.j, .int t.k] ∧
  ∀ (b : Addr) (u : Tm) H', u = setN n t.c p t → Ch [] H H' → SqT K H' b [.int u.c, .int u.i, .int u.j, .int u.k] → Q (.ref b) H'
theorem c__law_moved {f : Addr} {fd : FuncData} (F : DefF K mg "_law_moved" s__law_moved ["term", "at", "power"] f fd) : Cal P w K mg base 1 "_law_moved" (sp__law_moved K) := by
  refine cal_of F sc__law_moved (fun vs H Q E h => by obtain ⟨_, _, _, _, _, rfl, _⟩ := h; rfl) (fun cdv A outer s H vs Q E hr h => ?_)
  obtain ⟨a, n, at_, p, t, rfl, rfl, hn, ht, q⟩ := h
  refine ⟨_, (pss_one (ps_ret (pe_op (k_catT (K := K) rfl) (pe_op (k_catT (K := K) rfl) (pe_slice (k_slT (K := K) rfl) (pv 0) po_none (po_some (pv 1))) (pe_tup (pa_cons (pv 2) pa_nil))) (pe_slice (k_slT (K := K) rfl) (pv 0) (po_some (pe_op op_add (pv 1) pe_int)) po_none)))), ?_⟩
  refine w_start (σ := [some _, some _, some _]) rfl ?_
  walk_at "go"
  refine w_slT ht fun b1 H1 c1 h1 => ?_
  walk_at "go"
  refine w_newT (show 1 ≤ sizeLine by decide) fun b2 H2 n2 c2 h2 => ?_
  have z8 : (8 : Nat) ≤ sizeLine := by decide
  rw [cutV_to (xs := [.int t.c, .int t.i, .int t.j, .int t.k]) (k := n + 1) (by omega) (show n + 1 ≤ 4 by omega)] at h1
  refine w_catA (c2.sqT h1) (.of h2) (by rw [List.length_take]; simp only [List.length_cons, List.length_nil]; omega) fun b3 H3 c3 h3 => ?_
  walk_at "go"
  refine w_slT (c3.sqT (c2.sqT (c1.sqT ht))) fun b4 H4 c4 h4 => ?_
  rw [cutV_from (xs := [.int t.c, .int t.i, .int t.j, .int t.k]) (k := n + 2) (by omega)] at h4
  refine w_catA (c4.sqT h3) h4 (by rw [List.length_append, List.length_take, List.length_drop]; simp only [List.length_cons, List.length_nil]; omega) fun b5 H5 c5 h5 => ?_
  refine q b5 _ H5 rfl (c1.trans (c2.trans (c3.trans (c4.trans c5)))) ?_
  obtain rfl | rfl | rfl : n = 0 ∨ n = 1 ∨ n = 2 := by omega
  all_goals exact h5
end
end My
namespace My
open PySem PySem.Spec PyProof.Rows L2
/-- a term as the law draws it -/
structure OkT (t : Tm) : Prop where
  c : t.c.natAbs < 2 ^ 140
  i0 : 0 ≤ t.i
  i1 : t.i ≤ 12
  j0 : 0 ≤ t.j
  j1 : t.j ≤ 12
  k0 : 0 ≤ t.k
  k1 : t.k ≤ 12
abbrev OkTs (ts : List Tm) : Prop := ∀ t ∈ ts, OkT t
theorem OkTs.exp {ts : List Tm} (h : OkTs ts) : ExpOk ts := fun t m => ⟨(h t m).i0, (h t m).j0, (h t m).k0⟩
section
variable {P : Program} {w : World} {K : PySem.W.Frag} {mg : Str → Option Value} {base : Heap}
theorem tml_app {H : Hp} {l : Addr} {ts us : List Tm} {xs ys : List V} (h : Tms K H xs ts) (h' : Tms K H ys us) : Tms K H (xs ++ ys) (ts ++ us) := h.app h'
abbrev s__law_terms : Stmt := topS 41
theorem sc__law_terms : FnScope ["box", "great", "wide", "mask", "count", "terms", "turn", "i", "j", "k", "c", "again", "old"] ["box", "great"] (defScope s__law_terms) := ⟨rfl, rfl, rfl, by decide +kernel, rfl, by decide +kernel, by decide +kernel⟩
def sp__law_terms (K : PySem.W.Frag) : Sp := fun vs H Q _ => ∃ (b c : Addr) (g : Nat), vs = [.ref b, .int g] ∧ Box H b c ∧ g ≤ 5 ∧ ∀ (D : Addr) (ts : List Tm) H', H D = none → Ch [b] H H' → Box H' b c → TmL K H' D ts → OkTs ts → ts.length ≤ 16 → Q (.ref D) H'
theorem c__law_terms (T : Txt mg) (C__law_draw : Cal P w K mg base 2 "_law_draw" sp__law_draw) (C__law_number : Cal P w K mg base 3 "_law_number" sp__law_number) {f : Addr} {fd : FuncData} (F : DefF K mg "_law_terms" s__law_terms ["box", "great"] f fd) : Cal P w K mg base 4 "_law_terms" (sp__law_terms K) := by
  refine cal_of F sc__law_terms (fun vs H Q E h => by obtain ⟨_, _, _, rfl, _⟩ := h; rfl) (fun cdv A outer s H vs Q E hr h => ?_)
  obtain ⟨b, c, g, rfl, B, hg, q⟩ := h
  refine ⟨_, (pss_cons (ps_set (i := 2) sc__law_terms.nd rfl (Or.inl rfl) (pe_cc C__law_draw hr (by decide) (by rfl) (pa_cons (pv 0) (pa_cons pe_int pa_nil))))
 (pss_cons (ps_set (i := 3) sc__law_terms.nd rfl (Or.inl rfl) (pe_cc C__law_draw hr (by decide) (by rfl) (pa_cons (pv 0) (pa_cons pe_int pa_nil))))
 (pss_cons (ps_set (i := 4) sc__law_terms.nd rfl (Or.inl rfl) (pe_cc C__law_draw hr (by decide) (by rfl) (pa_cons (pv 0) (pa_cons pe_int pa_nil))))
 (Evl.pss_cut (ps_if (pt_cmpR op_eq (pe_cc C__law_draw hr (by decide) (by rfl) (pa_cons (pv 0) (pa_cons pe_int pa_nil))) pe_int (nomark _)) (pss_one (ps_set (i := 4) sc__law_terms.nd rfl (Or.inl rfl) (pe_cc C__law_draw hr (by decide) (by rfl) (pa_cons (pv 0) (pa_cons pe_int pa_nil))))) pss_nil)
 (pss_cons (ps_set (i := 5) sc__law_terms.nd rfl (Or.inl rfl) (pe_lst pa_nil))
 (pss_cons (ps_for PassesOwn.never rfl (pi_range1 (by rfl) T.z_range (pa_cons (pv 4) pa_nil)) (pg_name (i := 6) sc__law_terms.nd rfl (Or.inl rfl)) (pss_cons (ps_par3 (i := 7) (j := 8) (l := 9) (by rfl) sc__law_terms.nd rfl rfl rfl (by decide) (by decide) (by decide) rfl rfl rfl (pa_cons (pe_cc C__law_draw hr (by decide) (by rfl) (pa_cons (pv 0) (pa_cons pe_int pa_nil))) (pa_cons (pe_cc C__law_draw hr (by decide) (by rfl) (pa_cons (pv 0) (pa_cons pe_int pa_nil))) (pa_cons (pe_cc C__law_draw hr (by decide) (by rfl) (pa_cons (pv 0) (pa_cons pe_int pa_nil))) pa_nil))) (by rfl))
 (Evl.pss_cut (ps_if (pt_cmpR op_eq (pv 2) pe_int (nomark _)) (pss_cons (ps_set (i := 7) sc__law_terms.nd rfl (Or.inl rfl) (pe_cc C__law_draw hr (by decide) (by rfl) (pa_cons (pv 0) (pa_cons pe_int pa_nil))))
 (pss_cons (ps_set (i := 8) sc__law_terms.nd rfl (Or.inl rfl) (pe_cc C__law_draw hr (by decide) (by rfl) (pa_cons (pv 0) (pa_cons (pe_op op_sub pe_int (pv 7)) pa_nil))))
 (pss_one (ps_set (i := 9) sc__law_terms.nd rfl (Or.inl rfl) (pe_cc C__law_draw hr (by decide) (by rfl) (pa_cons (pv 0) (pa_cons (pe_op op_sub (pe_op op_sub pe_int (pv 7)) (pv 8)) pa_nil))))))) pss_nil)
 (Evl.pss_cut (ps_if (pt_cmpR (k_inS (K := K) rfl) (pv 3) (pe_lst (pa_cons pe_int (pa_cons pe_int (pa_cons pe_int pa_nil)))) (by rfl)) (pss_one (ps_set (i := 7) sc__law_terms.nd rfl (Or.inl rfl) pe_int)) pss_nil)
 (Evl.pss_cut (ps_if (pt_cmpR (k_inS (K := K) rfl) (pv 3) (pe_lst (pa_cons pe_int (pa_cons pe_int (pa_cons pe_int pa_nil)))) (by rfl)) (pss_one (ps_set (i := 8) sc__law_terms.nd rfl (Or.inl rfl) pe_int)) pss_nil)
 (Evl.pss_cut (ps_if (pt_cmpR (k_inS (K := K) rfl) (pv 3) (pe_lst (pa_cons pe_int (pa_cons pe_int (pa_cons pe_int pa_nil)))) (by rfl)) (pss_one (ps_set (i := 9) sc__law_terms.nd rfl (Or.inl rfl) pe_int)) pss_nil)
 (pss_cons (ps_set (i := 10) sc__law_terms.nd rfl (Or.inl rfl) (pe_cc C__law_number hr (by decide) (by rfl) (pa_cons (pv 0) (pa_cons (pe_op op_mulG (pv 1) (pe_cc C__law_draw hr (by decide) (by rfl) (pa_cons (pv 0) (pa_cons pe_int pa_nil)))) pa_nil))))
 (pss_cons (ps_set (i := 11) sc__law_terms.nd rfl (Or.inl rfl) (pe_cc C__law_draw hr (by decide) (by rfl) (pa_cons (pv 0) (pa_cons pe_int pa_nil))))
 (Evl.pss_cut (ps_if (PW.pt (pw_and (pt_cmpR op_lt (pv 11) pe_int (nomark _)) (pw_and1 (k_tru (K := K) rfl (pv 5))))) (pss_one (ps_asg (pe_op (k_catT (K := K) rfl) (pe_tup (pa_cons (pv 10) pa_nil)) (pe_slice (k_slT (K := K) rfl) (pe_ix (k_ixL (K := K) rfl) (pv 5) (pe_cc C__law_draw hr (by decide) (by rfl) (pa_cons (pv 0) (pa_cons (pe_callB (k_len (K := K) rfl) (by rfl) T.z_len PySem.boot_len (pa_cons (pv 5) pa_nil)) pa_nil))) (fun _ _ => rfl)) (po_some pe_int) po_none)) (k_gtup (K := K) (n := 4) rfl rfl (pgs_cons (pg_name (i := 10) sc__law_terms.nd rfl (Or.inl rfl)) (pgs_cons (pg_name (i := 7) sc__law_terms.nd rfl (Or.inl rfl)) (pgs_cons (pg_name (i := 8) sc__law_terms.nd rfl (Or.inl rfl)) (pgs_cons (pg_name (i := 9) sc__law_terms.nd rfl (Or.inl rfl)) pgs_nil))))))) pss_nil)
 (Evl.pss_cut (ps_if (PW.pt (pw_and (pt_cmpR op_eq (pv 11) pe_int (nomark _)) (pw_and1 (k_tru (K := K) rfl (pv 5))))) (pss_cons (ps_set (i := 12) sc__law_terms.nd rfl (Or.inl rfl) (pe_ix (k_ixL (K := K) rfl) (pv 5) (pe_cc C__law_draw hr (by decide) (by rfl) (pa_cons (pv 0) (pa_cons (pe_callB (k_len (K := K) rfl) (by rfl) T.z_len PySem.boot_len (pa_cons (pv 5) pa_nil)) pa_nil))) (fun _ _ => rfl)))
 (pss_one (ps_asg (pe_op (k_catT (K := K) rfl) (pe_tup (pa_cons (pe_un un_neg (pe_ix (k_ixT (K := K) rfl) (pv 12) pe_int (fun _ _ => rfl))) pa_nil)) (pe_slice (k_slT (K := K) rfl) (pv 12) (po_some pe_int) po_none)) (k_gtup (K := K) (n := 4) rfl rfl (pgs_cons (pg_name (i := 10) sc__law_terms.nd rfl (Or.inl rfl)) (pgs_cons (pg_name (i := 7) sc__law_terms.nd rfl (Or.inl rfl)) (pgs_cons (pg_name (i := 8) sc__law_terms.nd rfl (Or.inl rfl)) (pgs_cons (pg_name (i := 9) sc__law_terms.nd rfl (Or.inl rfl)) pgs_nil)))))))) pss_nil)
 (pss_one (ps_expr (pe_bm PySem.F.plainAttrs_list PySem.F.slot_list_append PySem.F.type_list_append mt_append (pv 5) (pa_cons (pe_tup (pa_cons (pv 10) (pa_cons (pv 7) (pa_cons (pv 8) (pa_cons (pv 9) pa_nil))))) pa_nil))))))))))))))
 (pss_one (ps_ret (pv 5))))))))), ?_⟩
  refine w_start (σ := [some _, some _, none, none, none, none, none, none, none, none, none, none, none]) rfl ?_
  walk_at "go"
  refine ⟨b, c, 6, rfl, B, by decide, by decide, fun wide H1 w0 w1 c1 B1 => ?_⟩
  walk_at "go"
  refine ⟨b, c, 16, rfl, B1, by decide, by decide, fun mask H2 m0 m1 c2 B2 => ?_⟩
  walk_at "go"
  refine ⟨b, c, 6, rfl, B2, by decide, by decide, fun count0 H3 k0 k1 c3 B3 => ?_⟩
  walk_at "go"
  have c13 := (c1.trans c2).trans c3
  refine w_cut (M := fun σ' H' => Ch [b] H H' ∧ Box H' b c ∧ ∃ (count : Int), σ' = [some (.ref b), some (.int g), some (.int wide), some (.int mask), some (.int count), none, none, none, none, none, none, none, none] ∧ 0 ≤ count ∧ count ≤ 16) ?_ ?_
  · walk_at "go"
    refine ⟨b, c, 8, rfl, B3, by decide, by decide, fun r H4 r0 r1 c4 B4 => ?_⟩
    walk_at "go"
    refine ite_d (fun h => ?_) (fun h => ?_)
    · walk_at "go"
      refine ⟨b, c, 17, rfl, B4, by decide, by decide, fun r H5 r0 r1 c5 B5 => ?_⟩
      exact ⟨(c13.trans c4).trans c5, B5, r, rfl, r0, by omega⟩
    · walk_at "go"
      exact ⟨c13.trans c4, B4, count0, rfl, k0, by omega⟩
  rintro σ' H4 ⟨c4, B4, count, rfl, n0, n1⟩
  walk_at "go"
  refine w_newL (show 0 ≤ sizeLine by decide) fun D H5 nD c5 hD => ?_
  have nD0 : H D = none := c4.free nD
  have neb := (B4.ne nD).1
  have nec := (B4.ne nD).2
  walk_at "go"
  refine w_iR1r (by omega) (by omega) ?_
  refine for_R (n := count.toNat) (fun i σ H' => Ch [b] H H' ∧ Box H' b c ∧ (∃ ts, TmL K H' D ts ∧ OkTs ts ∧ ts.length = i) ∧ ∃ z1 z2 z3 z4 z5 z6 z7, σ = [some (.ref b), some (.int g), some (.int wide), some (.int mask), some (.int count), some (.ref D), z1, z2, z3, z4, z5, z6, z7])
    ⟨c4.trans0 c5, B4.mono c5, ⟨[], ⟨[], hD, Els.nil⟩, fun _ h => (nomatch h), rfl⟩, _, _, _, _, _, _, _, rfl⟩ ?_ ?_
  · rintro i σ H6 hi ⟨c6, B6, ⟨ts, tD, okt, lts⟩, z1, z2, z3, z4, z5, z6, z7, rfl⟩
    walk_at "go"
    refine ⟨b, c, 4, rfl, B6, by decide, by decide, fun x H7 x0 x1 c7 B7 => ?_⟩
    walk_at "go"
    refine ⟨b, c, 3, rfl, B7, by decide, by decide, fun y H8 y0 y1 c8 B8 => ?_⟩
    walk_at "go"
    refine ⟨b, c, 3, rfl, B8, by decide, by decide, fun z H9 z0 z1 c9 B9 => ?_⟩
    walk_at "go"
    have cA := ((c6.trans c7).trans c8).trans c9
    have BA := B9
    have tA := ((tD.ch1 neb.symm c7).ch1 neb.symm c8).ch1 neb.symm c9
    walk_at "go"
    refine w_cut (M := fun σ' H' => Ch [b] H H' ∧ Box H' b c ∧ TmL K H' D ts ∧ ∃ (x y z : Int) (o1 o2 o3 : Option V), σ' = [some (.ref b), some (.int g), some (.int wide), some (.int mask), some (.int count), some (.ref D), some (.int (0 + (i : Int))), some (.int x), some (.int y), some (.int z), o1, o2, o3] ∧ 0 ≤ x ∧ x ≤ 12 ∧ 0 ≤ y ∧ y ≤ 12 ∧ 0 ≤ z ∧ z ≤ 12) ?_ ?_
    · walk_at "go"
      refine ite_d (fun h => ?_) (fun h => ?_)
      · walk_at "go"
        refine ⟨b, c, 13, rfl, BA, by decide, by decide, fun x H7 x0 x1 c7 B7 => ?_⟩
        walk_at "go"
        refine ⟨b, c, 13 - x, rfl, B7, by omega, by omega, fun y H8 y0 y1 c8 B8 => ?_⟩
        walk_at "go"
        refine ⟨b, c, 13 - x - y, rfl, B8, by omega, by omega, fun z H9 z0 z1 c9 B9 => ?_⟩
        walk_at "go"
        exact ⟨((cA.trans c7).trans c8).trans c9, B9, ((tA.ch1 neb.symm c7).ch1 neb.symm c8).ch1 neb.symm c9, _, _, _, _, _, _, rfl, by omega, by omega, by omega, by omega, by omega, by omega⟩
      · walk_at "go"
        exact ⟨cA, BA, tA, _, _, _, _, _, _, rfl, by omega, by omega, by omega, by omega, by omega, by omega⟩
    rintro σ' H11 ⟨c11, B11, t11, x, y, z, o1, o2, o3, rfl, x0, x1, y0, y1, z0, z1⟩
    walk_at "go"
    refine w_cut (M := fun σ' H' => Ch [b] H H' ∧ Box H' b c ∧ TmL K H' D ts ∧ ∃ (x y z : Int) (o1 o2 o3 : Option V), σ' = [some (.ref b), some (.int g), some (.int wide), some (.int mask), some (.int count), some (.ref D), some (.int (0 + (i : Int))), some (.int x), some (.int y), some (.int z), o1, o2, o3] ∧ 0 ≤ x ∧ x ≤ 12 ∧ 0 ≤ y ∧ y ≤ 12 ∧ 0 ≤ z ∧ z ≤ 12) ?_ ?_
    · walk_at "go"
      refine w_newL (show 3 ≤ sizeLine by decide) fun l H7 n7 c7 h7 => ?_
      have nl := B11.ne n7
      refine w_inL (ns := [1, 4, 5]) (.of h7) ?_
      walk_at "go"
      refine ite_d (fun hz => ?_) (fun hz => ?_)
      · walk_at "go"
        exact ⟨c11.trans0 c7, B11.mono c7, t11.ch0 c7, _, _, _, _, _, _, rfl, by omega, by omega, by omega, by omega, by omega, by omega⟩
      · walk_at "go"
        exact ⟨c11.trans0 c7, B11.mono c7, t11.ch0 c7, _, _, _, _, _, _, rfl, by omega, by omega, by omega, by omega, by omega, by omega⟩
    rintro σ' H12 ⟨c12, B12, t12, x, y, z, o1, o2, o3, rfl, x0, x1, y0, y1, z0, z1⟩
    walk_at "go"
    refine w_cut (M := fun σ' H' => Ch [b] H H' ∧ Box H' b c ∧ TmL K H' D ts ∧ ∃ (x y z : Int) (o1 o2 o3 : Option V), σ' = [some (.ref b), some (.int g), some (.int wide), some (.int mask), some (.int count), some (.ref D), some (.int (0 + (i : Int))), some (.int x), some (.int y), some (.int z), o1, o2, o3] ∧ 0 ≤ x ∧ x ≤ 12 ∧ 0 ≤ y ∧ y ≤ 12 ∧ 0 ≤ z ∧ z ≤ 12) ?_ ?_
    · walk_at "go"
      refine w_newL (show 3 ≤ sizeLine by decide) fun l H7 n7 c7 h7 => ?_
      have nl := B12.ne n7
      refine w_inL (ns := [2, 4, 6]) (.of h7) ?_
      walk_at "go"
      refine ite_d (fun hz => ?_) (fun hz => ?_)
      · walk_at "go"
        exact ⟨c12.trans0 c7, B12.mono c7, t12.ch0 c7, _, _, _, _, _, _, rfl, by omega, by omega, by omega, by omega, by omega, by omega⟩
      · walk_at "go"
        exact ⟨c12.trans0 c7, B12.mono c7, t12.ch0 c7, _, _, _, _, _, _, rfl, by omega, by omega, by omega, by omega, by omega, by omega⟩
    rintro σ' H13 ⟨c13, B13, t13, x, y, z, o1, o2, o3, rfl, x0, x1, y0, y1, z0, z1⟩
    walk_at "go"
    refine w_cut (M := fun σ' H' => Ch [b] H H' ∧ Box H' b c ∧ TmL K H' D ts ∧ ∃ (x y z : Int) (o1 o2 o3 : Option V), σ' = [some (.ref b), some (.int g), some (.int wide), some (.int mask), some (.int count), some (.ref D), some (.int (0 + (i : Int))), some (.int x), some (.int y), some (.int z), o1, o2, o3] ∧ 0 ≤ x ∧ x ≤ 12 ∧ 0 ≤ y ∧ y ≤ 12 ∧ 0 ≤ z ∧ z ≤ 12) ?_ ?_
    · walk_at "go"
      refine w_newL (show 3 ≤ sizeLine by decide) fun l H7 n7 c7 h7 => ?_
      have nl := B13.ne n7
      refine w_inL (ns := [3, 5, 6]) (.of h7) ?_
      walk_at "go"
      refine ite_d (fun hz => ?_) (fun hz => ?_)
      · walk_at "go"
        exact ⟨c13.trans0 c7, B13.mono c7, t13.ch0 c7, _, _, _, _, _, _, rfl, by omega, by omega, by omega, by omega, by omega, by omega⟩
      · walk_at "go"
        exact ⟨c13.trans0 c7, B13.mono c7, t13.ch0 c7, _, _, _, _, _, _, rfl, by omega, by omega, by omega, by omega, by omega, by omega⟩
    rintro σ' H14 ⟨c14, B14, t14, x, y, z, o1, o2, o3, rfl, x0, x1, y0, y1, z0, z1⟩
    walk_at "go"
    refine ⟨b, c, 2, rfl, B14, by decide, by decide, fun r H15 r0 r1 c15 B15 => ?_⟩
    walk_at "go"
    refine w_I (mul_ok_l (by omega)) ?_
    walk_at "go"
    have eg : (g : Int) * r = ((g * r.toNat : Nat) : Int) := by
      have : r = (r.toNat : Int) := by omega
      rw [Int.natCast_mul, ← this]
    have gl : g * r.toNat ≤ 5 := by
      have : r.toNat ≤ 1 := by omega
      have := Nat.mul_le_mul hg this
      omega
    rw [eg]
    refine ⟨b, c, g * r.toNat, rfl, B15, by omega, fun cc H16 hc c16 B16 => ?_⟩
    have hc : cc.natAbs < 2 ^ 140 := abs_mono hc (by omega)
    walk_at "go"
    refine ⟨b, c, 4, rfl, B16, by decide, by decide, fun again H17 a0 a1 c17 B17 => ?_⟩
    have c17 := ((c14.trans c15).trans c16).trans c17
    have t17 : TmL K H17 D ts := by
      have := ((t14.ch1 neb.symm c15).ch1 neb.symm c16)
      exact this.ch1 neb.symm (by assumption)
    walk_at "go"
    refine w_cut (M := fun σ' H' => Ch [b] H H' ∧ Box H' b c ∧ TmL K H' D ts ∧ ∃ (t : Tm) (o3 : Option V), OkT t ∧ σ' = [some (.ref b), some (.int g), some (.int wide), some (.int mask), some (.int count), some (.ref D), some (.int (0 + (i : Int))), some (.int t.i), some (.int t.j), some (.int t.k), some (.int t.c), some (.int again), o3]) ?_ ?_
    · walk_at "go"
      have stay : ∃ (t : Tm) (o3' : Option V), OkT t ∧ [some (V.ref b), some (.int g), some (.int wide), some (.int mask), some (.int count), some (.ref D), some (.int (0 + (i : Int))), some (.int x), some (.int y), some (.int z), some (.int cc), some (.int again), o3] = [some (V.ref b), some (.int g), some (.int wide), some (.int mask), some (.int count), some (.ref D), some (.int (0 + (i : Int))), some (.int t.i), some (.int t.j), some (.int t.k), some (.int t.c), some (.int again), o3'] := ⟨⟨cc, x, y, z⟩, o3, ⟨hc, x0, x1, y0, y1, z0, z1⟩, rfl⟩
      refine ite_d (fun ha => ?_) (fun ha => ?_)
      · walk_at "go"
        obtain ⟨xs, hx, hm⟩ := id t17
        refine w_truL (.of hx) ?_
        refine ite_b (fun he => ?_) (fun he => ?_)
        · have hpos : 0 < ts.length := by
            rw [← hm.len]
            cases xs with
            | nil => simp at he
            | cons x r => simp
          walk_at "go"
          refine w_newT (show 1 ≤ sizeLine by decide) fun v H18 n18 c18 h18 => ?_
          have hx := c18.at0 hx
          have B18 := B17.mono c18
          walk_at "go"
          rw [hm.len]
          refine ⟨b, c, ts.length, rfl, B18, by omega, by omega, fun r H19 r0 r1 c19 B19 => ?_⟩
          have hx := c19.at1 neb.symm hx
          obtain ⟨u, hu⟩ : ∃ u, ts[r.toNat]? = some u := ⟨_, List.getElem?_eq_getElem (by omega)⟩
          have um := okt u (List.mem_of_getElem? hu)
          obtain ⟨vv, e1, bu, rfl, hbu⟩ := hm.at_ _ u hu
          have hbu := c19.sqT (c18.sqT hbu)
          walk_at "go"
          refine w_ixL (.of hx) (atI_at (k := r.toNat) (by omega) e1) ?_
          walk_at "go"
          refine w_slTn hbu (fun z => absurd z.1 (show ¬ HT.sIx 4 0 (some 1) = 0 by decide)) fun b2 H20 n20 c20 h20 => ?_
          have h20 : H20 b2 = some (.tup [.int u.i, .int u.j, .int u.k]) := by rw [h20, cutV_from (i := 1) (k := 1) rfl]; rfl
          refine w_catA (c20.sqT (c19.sqT (.of h18))) (.of h20) (show 4 ≤ sizeLine by decide) fun b3 H21 c21 h21 => ?_
          have h21 : SqT K H21 b3 [.int cc, .int u.i, .int u.j, .int u.k] := h21
          walk_at "go"
          exact ⟨((c17.trans0 c18).trans c19).trans0 (c20.trans c21), (B19.mono c20).mono c21, ((((t17.ch0 c18).ch1 neb.symm c19).ch0 c20).ch0 c21), ⟨cc, u.i, u.j, u.k⟩, _, ⟨hc, um.i0, um.i1, um.j0, um.j1, um.k0, um.k1⟩, rfl⟩
        · walk_at "go"
          exact ⟨c17, B17, t17, stay⟩
      · walk_at "go"
        exact ⟨c17, B17, t17, stay⟩
    rintro σ' H18 ⟨c18, B18, t18, t, o3, okt1, rfl⟩
    walk_at "go"
    refine w_cut (M := fun σ' H' => Ch [b] H H' ∧ Box H' b c ∧ TmL K H' D ts ∧ ∃ (t : Tm) (o3 : Option V), OkT t ∧ σ' = [some (.ref b), some (.int g), some (.int wide), some (.int mask), some (.int count), some (.ref D), some (.int (0 + (i : Int))), some (.int t.i), some (.int t.j), some (.int t.k), some (.int t.c), some (.int again), o3]) ?_ ?_
    · walk_at "go"
      refine ite_d (fun ha => ?_) (fun ha => ?_)
      · walk_at "go"
        obtain ⟨xs, hx, hm⟩ := id t18
        refine w_truL (.of hx) ?_
        refine ite_b (fun he => ?_) (fun he => ?_)
        · have hpos : 0 < ts.length := by
            rw [← hm.len]
            cases xs with
            | nil => simp at he
            | cons x r => simp
          walk_at "go"
          rw [hm.len]
          refine ⟨b, c, ts.length, rfl, B18, by omega, by omega, fun r H19 r0 r1 c19 B19 => ?_⟩
          have hx := c19.at1 neb.symm hx
          obtain ⟨u, hu⟩ : ∃ u, ts[r.toNat]? = some u := ⟨_, List.getElem?_eq_getElem (by omega)⟩
          have um := okt u (List.mem_of_getElem? hu)
          obtain ⟨vv, e1, bu, rfl, hbu⟩ := hm.at_ _ u hu
          have hbu := c19.sqT hbu
          walk_at "go"
          refine w_ixL (.of hx) (atI_at (k := r.toNat) (by omega) e1) ?_
          walk_at "go"
          refine w_newT (show 1 ≤ sizeLine by decide) fun v H20 n20 c20 h20 => ?_
          have hbu := c20.sqT hbu
          walk_at "go"
          refine w_slTn hbu (fun z => absurd z.1 (show ¬ HT.sIx 4 0 (some 1) = 0 by decide)) fun b2 H21 n21 c21 h21 => ?_
          have h21 : H21 b2 = some (.tup [.int u.i, .int u.j, .int u.k]) := by rw [h21, cutV_from (i := 1) (k := 1) rfl]; rfl
          refine w_catA (c21.sqT (.of h20)) (.of h21) (show 4 ≤ sizeLine by decide) fun b3 H22 c22 h22 => ?_
          have h22 : SqT K H22 b3 [.int (-u.c), .int u.i, .int u.j, .int u.k] := h22
          walk_at "go"
          exact ⟨(c18.trans c19).trans0 (c20.trans (c21.trans c22)), B19.mono (c20.trans (c21.trans c22)), (t18.ch1 neb.symm c19).ch0 (c20.trans (c21.trans c22)), ⟨-u.c, u.i, u.j, u.k⟩, _, ⟨by rw [Int.natAbs_neg]; exact um.c, um.i0, um.i1, um.j0, um.j1, um.k0, um.k1⟩, rfl⟩
        · walk_at "go"
          exact ⟨c18, B18, t18, t, _, okt1, rfl⟩
      · walk_at "go"
        exact ⟨c18, B18, t18, t, _, okt1, rfl⟩
    rintro σ' H19 ⟨c19, B19, ⟨xs, hx, hm⟩, u, o4, okt2, rfl⟩
    walk_at "go"
    refine ⟨.inl ⟨rfl, _, .of hx⟩, ?_⟩
    walk_at "go"
    refine w_newT (show 4 ≤ sizeLine by decide) fun v H20 n20 c20 h20 => ?_
    walk_at "go"
    have big : (100 : Nat) < sizeLine := by decide
    refine w_append (c20.at0 hx) (by rw [hm.len]; omega) fun H21 c21 h21 => ?_
    have B21 : Box H21 b c := (B19.mono c20).mono1 c21 neb nec
    refine ⟨(c19.trans0 c20).cut nD0 c21, B21, ⟨ts ++ [u], ⟨_, h21, ((hm.chm c20).chm c21).snoc ⟨v, rfl, c21.sqT (.of h20)⟩⟩, fun t m => ?_, by rw [List.length_append, lts]; rfl⟩, _, _, _, _, _, _, _, rfl⟩
    rcases List.mem_append.mp m with m | m
    · exact okt t m
    · rw [List.mem_singleton.mp m]
      exact okt2
  · rintro σ H' ⟨c6, B6, ⟨ts, tD, okt, lts⟩, z1, z2, z3, z4, z5, z6, z7, rfl⟩
    walk_at "go"
    exact q D ts H' nD0 c6 B6 tD okt (by omega)
end
end My
namespace My
open PySem PySem.Spec PyProof.Rows L2
section
variable {P : Program} {w : World} {K : PySem.W.Frag} {mg : Str → Option Value} {base : Heap}
theorem OkTs.app {ts us : List Tm} (h : OkTs ts) (h' : OkTs us) : OkTs (ts ++ us) := fun t m => (List.mem_append.mp m).elim (h t) (h' t)
theorem tms_one {H : Hp} {a : Addr} {t : Tm} (h : SqT K H a [.int t.c, .int t.i, .int t.j, .int t.k]) : Tms K H [.ref a] [t] := Els.nil.snoc ⟨a, rfl, h⟩
theorem OkTs.one {t : Tm} (h : OkT t) : OkTs [t] := fun u m => by
  obtain rfl := List.mem_singleton.mp m
  exact h
abbrev s__law_second : Stmt := topS 42
theorem sc__law_second : FnScope ["box", "terms", "great", "way", "place", "c", "i", "j", "k"] ["box", "terms", "great"] (defScope s__law_second) := ⟨rfl, rfl, rfl, by decide +kernel, rfl, by decide +kernel, by decide +kernel⟩
def sp__law_second (K : PySem.W.Frag) : Sp := fun vs H Q _ => ∃ (b c l : Addr) (g : Nat) (ts : List Tm), vs = [.ref b, .ref l, .int g] ∧ Box H b c ∧ TmL K H l ts ∧ OkTs ts ∧ ts.length ≤ 16 ∧ g ≤ 5 ∧ l ≠ b ∧ ∀ (D : Addr) (us : List Tm) H', H D = none → Ch [b] H H' → Box H' b c → TmL K H' D us → OkTs us → us.length ≤ 17 → Q (.ref D) H'
theorem c__law_second (T : Txt mg) (C__law_draw : Cal P w K mg base 2 "_law_draw" sp__law_draw) (C__law_terms : Cal P w K mg base 4 "_law_terms" (sp__law_terms K)) {f : Addr} {fd : FuncData} (F : DefF K mg "_law_second" s__law_second ["box", "terms", "great"] f fd) : Cal P w K mg base 5 "_law_second" (sp__law_second K) := by
  refine cal_of F sc__law_second (fun vs H Q E h => by obtain ⟨_, _, _, _, _, rfl, _⟩ := h; rfl) (fun cdv A outer s H vs Q E hr h => ?_)
  obtain ⟨b, c, l, g, ts, rfl, B, hL, okt, hl, hg, q⟩ := h
  refine ⟨_, (pss_cons (ps_set (i := 3) sc__law_second.nd rfl (Or.inl rfl) (pe_cc C__law_draw hr (by decide) (by rfl) (pa_cons (pv 0) (pa_cons pe_int pa_nil))))
 (pss_cons (ps_if (pt_cmpR op_eq (pv 3) pe_int (nomark _)) (pss_one (ps_ret (pe_op op_cat (pe_revK (K := K) rfl (pv 1) (pe_un un_neg pe_int)) (pe_lst (pa_cons (pe_tup (pa_cons pe_int (pa_cons pe_int (pa_cons pe_int (pa_cons pe_int pa_nil))))) pa_nil))))) pss_nil)
 (pss_cons (ps_if (PW.pt (pw_and (pt_cmpR op_eq (pv 3) pe_int (nomark _)) (pw_and1 (k_tru (K := K) rfl (pv 1))))) (pss_cons (ps_set (i := 4) sc__law_second.nd rfl (Or.inl rfl) (pe_cc C__law_draw hr (by decide) (by rfl) (pa_cons (pv 0) (pa_cons (pe_callB (k_len (K := K) rfl) (by rfl) T.z_len PySem.boot_len (pa_cons (pv 1) pa_nil)) pa_nil))))
 (pss_cons (ps_asg (pe_ix (k_ixL (K := K) rfl) (pv 1) (pv 4) (fun _ _ => rfl)) (k_gtup (K := K) (n := 4) rfl rfl (pgs_cons (pg_name (i := 5) sc__law_second.nd rfl (Or.inl rfl)) (pgs_cons (pg_name (i := 6) sc__law_second.nd rfl (Or.inl rfl)) (pgs_cons (pg_name (i := 7) sc__law_second.nd rfl (Or.inl rfl)) (pgs_cons (pg_name (i := 8) sc__law_second.nd rfl (Or.inl rfl)) pgs_nil))))))
 (pss_one (ps_ret (pe_op op_cat (pe_op op_cat (pe_slice (k_slL (K := K) rfl) (pv 1) po_none (po_some (pv 4))) (pe_lst (pa_cons (pe_tup (pa_cons (pv 5) (pa_cons (pv 7) (pa_cons (pv 6) (pa_cons (pv 8) pa_nil))))) pa_nil))) (pe_slice (k_slL (K := K) rfl) (pv 1) (po_some (pe_op op_add (pv 4) pe_int)) po_none)))))) pss_nil)
 (pss_cons (ps_if (pt_cmpR op_eq (pv 3) pe_int (nomark _)) (pss_one (ps_ret (pe_op op_cat (pv 1) (pe_lst (pa_cons (pe_tup (pa_cons pe_int (pa_cons (pe_cc C__law_draw hr (by decide) (by rfl) (pa_cons (pv 0) (pa_cons pe_int pa_nil))) (pa_cons (pe_cc C__law_draw hr (by decide) (by rfl) (pa_cons (pv 0) (pa_cons pe_int pa_nil))) (pa_cons (pe_cc C__law_draw hr (by decide) (by rfl) (pa_cons (pv 0) (pa_cons pe_int pa_nil))) pa_nil))))) pa_nil))))) pss_nil)
 (pss_cons (ps_if (pt_cmpR op_eq (pv 3) pe_int (nomark _)) (pss_one (ps_ret (pe_lc (own := [("c", 5), ("i", 6), ("j", 7), ("k", 8)]) (g := gTup K 4 (gCons (gName 5) (gCons (gName 6) (gCons (gName 7) (gCons (gName 8) gNil))))) rfl sc__law_second.nd (k_piL (K := K) rfl (pv 1)) (blkOk_by (own := [("c", 5), ("i", 6), ("j", 7), ("k", 8)]) (N := ["box", "terms", "great", "way", "place", "c", "i", "j", "k"]) (sc := defScope s__law_second) (by decide +kernel)) (fun _ _ _ _ _ => k_gtup (K := K) rfl rfl (pgs_cons (pg_name (i := 5) sc__law_second.nd rfl (Or.inl rfl)) (pgs_cons (pg_name (i := 6) sc__law_second.nd rfl (Or.inl rfl)) (pgs_cons (pg_name (i := 7) sc__law_second.nd rfl (Or.inl rfl)) (pgs_cons (pg_name (i := 8) sc__law_second.nd rfl (Or.inl rfl)) pgs_nil))))) (fun _ _ _ _ _ => pts_nil) (fun _ _ _ _ _ => (pe_tup (pa_cons (pe_un un_neg (pv 5)) (pa_cons (pv 6) (pa_cons (pv 7) (pa_cons (pv 8) pa_nil))))))))) pss_nil)
 (pss_one (ps_ret (pe_cc C__law_terms hr (by decide) (by rfl) (pa_cons (pv 0) (pa_cons (pv 2) pa_nil)))))))))), ?_⟩
  refine w_start (σ := [some _, some _, some _, none, none, none, none, none, none]) rfl ?_
  walk_at "go"
  refine ⟨b, c, 6, rfl, B, by decide, by decide, fun way H1 w0 w1 c1 B1 => ?_⟩
  obtain ⟨xs, hx, hm⟩ := hL
  have neb : l ≠ b := q.1
  replace q := q.2
  have hx1 := c1.at1 neb hx
  have hm1 := hm.chm c1
  have z8 : (1000 : Nat) ≤ sizeLine := by decide
  have lx := hm.len
  walk_at "go"
  refine ite_d (fun h => ?_) (fun h => ?_)
  · walk_at "go"
    refine rrev (.of hx1) fun p H2 n2 c2 h2 => ?_
    walk_at "go"
    refine w_newT (show 4 ≤ sizeLine by decide) fun p3 H3 n3 c3 h3 => ?_
    walk_at "go"
    refine w_newL (show 1 ≤ sizeLine by decide) fun p4 H4 n4 c4 h4 => ?_
    refine w_cat (c4.at0 (c3.at0 h2)) h4 (by rw [List.length_reverse]; simp only [List.length_cons, List.length_nil]; omega) fun m H5 n5 c5 h5 => ?_
    have c25 := c2.trans (c3.trans (c4.trans c5))
    refine q m (ts.reverse ++ [⟨0, 1, 0, 0⟩]) H5 (c1.free ((c2.trans (c3.trans c4)).free n5)) (c1.trans0 c25) (B1.mono c25) ⟨_, h5, ?_⟩ ?_ ?_
    · exact (((hm1.rev).chm c25)).app (tms_one (t := ⟨0, 1, 0, 0⟩) ((c4.trans c5).sqT (.of h3)))
    · refine OkTs.app (fun t m => okt t (List.mem_reverse.mp m)) (OkTs.one ⟨by decide, by decide, by decide, by decide, by decide, by decide, by decide⟩)
    · rw [List.length_append, List.length_reverse]; simp only [List.length_cons, List.length_nil]; omega
  walk_at "go"
  refine ite_d (fun h2 => ?_) (fun h2 => ?_)
  · walk_at "go"
    refine w_truL (.of hx1) ?_
    refine ite_b (fun he => ?_) (fun he => ?_)
    · have hpos : 0 < ts.length := by
        rw [← hm.len]
        cases xs with
        | nil => simp at he
        | cons x r => simp
      walk_at "go"
      rw [hm.len]
      refine ⟨b, c, ts.length, rfl, B1, by omega, by omega, fun r H2 r0 r1 c2 B2 => ?_⟩
      have hx2 := c2.at1 neb hx1
      have hm2 := hm1.chm c2
      obtain ⟨u, hu⟩ : ∃ u, ts[r.toNat]? = some u := ⟨_, List.getElem?_eq_getElem (by omega)⟩
      have um := okt u (List.mem_of_getElem? hu)
      obtain ⟨vv, e1, bu, rfl, hbu⟩ := hm2.at_ _ u hu
      walk_at "go"
      refine w_ixL (.of hx2) (atI_at (k := r.toNat) (by omega) e1) ?_
      walk_at "go"
      refine w_slL (.of hx2) fun p3 H3 n3 c3 h3 => ?_
      rw [cutV_to (k := r.toNat) (by omega) (by omega)] at h3
      walk_at "go"
      refine w_newT (show 4 ≤ sizeLine by decide) fun p4 H4 n4 c4 h4 => ?_
      walk_at "go"
      refine w_newL (show 1 ≤ sizeLine by decide) fun p5 H5 n5 c5 h5 => ?_
      refine w_cat (c5.at0 (c4.at0 h3)) h5 (by rw [List.length_take]; simp only [List.length_cons, List.length_nil]; omega) fun p6 H6 n6 c6 h6 => ?_
      walk_at "go"
      refine w_slL (.of (c6.at0 (c5.at0 (c4.at0 (c3.at0 hx2))))) fun p7 H7 n7 c7 h7 => ?_
      rw [cutV_from (k := r.toNat + 1) (by omega)] at h7
      refine w_cat (c7.at0 h6) h7 (by rw [List.length_append, List.length_take, List.length_drop]; simp only [List.length_cons, List.length_nil]; omega) fun m H8 n8 c8 h8 => ?_
      have c38 := c3.trans (c4.trans (c5.trans (c6.trans (c7.trans c8))))
      refine q m ((ts.take r.toNat ++ [⟨u.c, u.j, u.i, u.k⟩]) ++ ts.drop (r.toNat + 1)) H8 ((c1.trans c2).free ((c3.trans (c4.trans (c5.trans (c6.trans c7)))).free n8)) ((c1.trans c2).trans0 c38) (B2.mono c38) ⟨_, h8, ?_⟩ ?_ ?_
      · exact (((hm2.take _).chm c38).app (tms_one (t := ⟨u.c, u.j, u.i, u.k⟩) ((c5.trans (c6.trans (c7.trans c8))).sqT (.of h4)))).app ((hm2.drop _).chm c38)
      · refine OkTs.app (OkTs.app (fun t m => okt t (List.mem_of_mem_take m)) (OkTs.one ⟨um.c, um.j0, um.j1, um.i0, um.i1, um.k0, um.k1⟩)) (fun t m => okt t (List.mem_of_mem_drop m))
      · rw [List.length_append, List.length_append, List.length_take, List.length_drop]; simp only [List.length_cons, List.length_nil]; omega
    walk_at "go"
    refine ite_df (by omega) ?_
    walk_at "go"
    refine ite_df (by omega) ?_
    walk_at "go"
    refine ⟨b, c, g, rfl, B1, hg, fun D us H2 nD c2 B2 hD ok2 l2 => ?_⟩
    exact q D us H2 (c1.free nD) (c1.trans c2) B2 hD ok2 (by omega)
  walk_at "go"
  refine ite_d (fun h3 => ?_) (fun h3 => ?_)
  · walk_at "go"
    refine ⟨b, c, 3, rfl, B1, by decide, by decide, fun x H2 x0 x1 c2 B2 => ?_⟩
    walk_at "go"
    refine ⟨b, c, 2, rfl, B2, by decide, by decide, fun y H3 y0 y1 c3 B3 => ?_⟩
    walk_at "go"
    refine ⟨b, c, 3, rfl, B3, by decide, by decide, fun z H4 z0 z1 c4 B4 => ?_⟩
    walk_at "go"
    refine w_newT (show 4 ≤ sizeLine by decide) fun p5 H5 n5 c5 h5 => ?_
    walk_at "go"
    refine w_newL (show 1 ≤ sizeLine by decide) fun p6 H6 n6 c6 h6 => ?_
    have cA := (c2.trans c3).trans c4
    refine w_cat (c6.at0 (c5.at0 (cA.at1 neb hx1))) h6 (by simp only [List.length_cons, List.length_nil]; omega) fun m H7 n7 c7 h7 => ?_
    have c57 := c5.trans (c6.trans c7)
    refine q m (ts ++ [⟨1, x, y, z⟩]) H7 ((c1.trans cA).free ((c5.trans c6).free n7)) ((c1.trans cA).trans0 c57) (B4.mono c57) ⟨_, h7, ?_⟩ ?_ ?_
    · exact ((hm1.chm cA).chm c57).app (tms_one (t := ⟨1, x, y, z⟩) ((c6.trans c7).sqT (.of h5)))
    · exact OkTs.app okt (OkTs.one ⟨(show (1 : Int).natAbs < 2 ^ 140 by decide), x0, (by show x ≤ 12; omega), y0, (by show y ≤ 12; omega), z0, (by show z ≤ 12; omega)⟩)
    · rw [List.length_append]; simp only [List.length_cons, List.length_nil]; omega
  walk_at "go"
  refine ite_d (fun h4 => ?_) (fun h4 => ?_)
  · walk_at "go"
    refine lc_e ts (walk_list (K := K) (a := l) (xs := xs)) hm.len.symm (fun _ => true) (fun t v H => Tme K (t.scale (-1)) v H) (fun _ _ _ _ _ c h => h.ch c) (fun H' c => .of (c.at0 hx1)) (by rw [hm.len]; omega) ?_ ?_
    · rintro k t x H5 H6 ht c5 ⟨rfl, hx⟩ Nx A1 hN hA
      obtain ⟨v, e1, b1, rfl, hb1⟩ := hm1.at_ k t ht
      rw [hx] at e1
      cases e1
      have hb1 := c5.sqT hb1
      walk_at "go"
      refine ⟨rfl, ?_⟩
      walk_at "go"
      refine w_newT (show 4 ≤ sizeLine by decide) fun b3 H8 n8 c8 h8 => ?_
      refine hA _ H8 c8 rfl ⟨b3, rfl, .of ?_⟩
      show H8 b3 = some (.tup [.int (-1 * t.c), _, _, _])
      rw [Int.neg_one_mul]
      exact h8
    · intro D H2 out nD c2 hD el
      rw [filter_yes] at el
      refine q D (ts.map (Tm.scale (-1))) H2 (c1.free nD) (c1.trans0 c2) (B1.mono c2) ⟨out, hD, el.map (F := Tme K) (f := Tm.scale (-1)) fun _ _ _ h => h⟩ ?_ (by rw [List.length_map]; omega)
      intro t m
      obtain ⟨u, mu, rfl⟩ := List.mem_map.mp m
      have o := okt u mu
      refine ⟨?_, o.i0, o.i1, o.j0, o.j1, o.k0, o.k1⟩
      show (-1 * u.c).natAbs < _
      rw [Int.neg_one_mul, Int.natAbs_neg]
      exact o.c
  · walk_at "go"
    refine ⟨b, c, g, rfl, B1, hg, fun D us H2 nD c2 B2 hD ok2 l2 => ?_⟩
    exact q D us H2 (c1.free nD) (c1.trans c2) B2 hD ok2 (by omega)
abbrev s__law_made : Stmt := topS 43
theorem sc__law_made : FnScope ["terms", "as_list", "handed", "told"] ["terms", "as_list"] (defScope s__law_made) := ⟨rfl, rfl, rfl, by decide +kernel, rfl, by decide +kernel, by decide +kernel⟩
def sp__law_made (K : PySem.W.Frag) (C : Addr) : Sp := fun vs H Q _ => ∃ (l : Addr) (z : Bool) (ts : List Tm), vs = [.ref l, .bl z] ∧ TmL K H l ts ∧ ExpOk ts ∧ ts.length < 800000 ∧ ∀ (p : Addr) (us : List Tm) H', Nf us → (∀ e, cf us e = cf ts e) → Ch [] H H' → Po K C H' p us → Q (.ref p) H'
theorem c__law_made {A_Poly A_InvalidPoly A_e : Addr} (T : Txt mg) (T_P : PolyK K mg A_Poly) (UE : ∀ H, SqT K H A_e []) (CI : CalI P w K mg base 3 "Poly" A_Poly [.ref A_e] (sp_P_init K A_Poly A_InvalidPoly)) {f : Addr} {fd : FuncData} (F : DefF K mg "_law_made" s__law_made ["terms", "as_list"] f fd) : Cal P w K mg base 5 "_law_made" (sp__law_made K A_Poly) := by
  refine cal_of F sc__law_made (fun vs H Q E h => by obtain ⟨_, _, _, rfl, _⟩ := h; rfl) (fun cdv A outer s H vs Q E hr h => ?_)
  obtain ⟨l, z, ts, rfl, ⟨xs, hx, hm⟩, ex, hl, q⟩ := h
  refine ⟨_, (pss_cons (ps_set (i := 2) sc__law_made.nd rfl (Or.inl rfl) (pe_callTy (k_list (K := K) rfl) (by rfl) T.z_list (by decide +kernel) (pa_cons (pv 0) pa_nil)))
 (pss_cons (ps_if (pt_not (pt_val (pv 1))) (pss_one (ps_ret (pe_mkS CI hr (by decide) (by rfl) noLet (pa_cons (pe_callTy (k_tuple (K := K) rfl) (by rfl) T.z_tuple (by decide +kernel) (pa_cons (pv 2) pa_nil)) pa_nil)))) pss_nil)
 (pss_cons (ps_set (i := 3) sc__law_made.nd rfl (Or.inl rfl) (pe_mkS CI hr (by decide) (by rfl) noLet (pa_cons (pv 2) pa_nil)))
 (pss_cons (ps_if (pt_cmpR (k_neD (K := K) rfl hr.units) (pv 2) (pv 0) (nomark _)) (pss_one (ps_ret pe_non)) pss_nil)
 (pss_one (ps_ret (pv 3))))))), ?_⟩
  refine w_start (σ := [some _, some _, none, none]) rfl ?_
  walk_at "go"
  refine w_listL (.of hx) fun h H1 n1 c1 h1 => ?_
  walk_at "go"
  have big : (800000 : Nat) ≤ sizeLine := by decide
  cases z
  · walk_at "go"
    refine w_tupleL (.of h1) fun t H2 n2 c2 h2 => ?_
    walk_at "go"
    refine mk_poly (z := true) (a := t) (show SqT K H2 t xs from .of h2) (hm.chm (c1.trans c2)) hl ex fun p dx t2 H3 us nf ce np c3 hp ht => ?_
    exact q p us H3 nf ce (c1.trans (c2.trans c3)) ⟨dx, t2, hp, ht⟩
  · walk_at "go"
    refine mk_poly (z := false) (a := h) (show H1 h = some (.lst xs) from h1) (hm.chm c1) hl ex fun p dx t2 H3 us nf ce np c3 hp ht => ?_
    walk_at "go"
    refine w_neTmL (.of (c3.at0 h1)) (hm.chm (c1.trans c3)) (.of ((c1.trans c3).at0 hx)) (hm.chm (c1.trans c3)) ?_
    refine ⟨_, rfl, ?_⟩
    refine ite_ndf rfl ?_
    walk_at "go"
    exact q p us H3 nf ce (c1.trans c3) ⟨dx, t2, hp, ht⟩
end
end My
namespace My
open PySem PySem.Spec PyProof.Rows L2
open SX (S S_cat S_len S_tl S_inj)
open TL (numL tl joinL)
theorem joinL_ne {a : List Nat} {ps : List (List Nat)} (h : ps ≠ []) (h' : ∀ p ∈ ps, p ≠ []) : joinL a ps ≠ [] := by
  cases ps with
  | nil => exact absurd rfl h
  | cons p ps =>
    have := h' p List.mem_cons_self
    cases ps with
    | nil => exact this
    | cons q r =>
      show p ++ (a ++ joinL a (q :: r)) ≠ []
      simp [this]
theorem pwF_ne {n : Nat} {p : Int} : ∀ x ∈ pwF n p, x ≠ [] := by
  intro x hx
  unfold pwF at hx
  split at hx
  · obtain rfl := List.mem_singleton.mp hx
    simp
  · split at hx
    · obtain rfl := List.mem_singleton.mp hx
      simp
    · cases hx
theorem pwF_pos {n : Nat} {p : Int} (h : 0 < p) : pwF n p ≠ [] := by
  unfold pwF
  split
  · simp
  · rw [if_pos (by omega)]
    simp
theorem tmL_ne {t : Tm} (h : SmT t) : tmL t ≠ [] := by
  obtain ⟨x0, x1, x2⟩ := h.e
  refine joinL_ne ?_ ?_
  · unfold facL
    by_cases hy : t.c.natAbs ≠ 1 ∨ t.i + t.j + t.k = 0
    · rw [if_pos hy]
      simp
    · rw [if_neg hy]
      have : 0 < t.i ∨ 0 < t.j ∨ 0 < t.k := by omega
      rcases this with g | g | g
      · have := pwF_pos (n := 120) g
        simp [this]
      · have := pwF_pos (n := 121) g
        simp [this]
      · have := pwF_pos (n := 122) g
        simp [this]
  · intro p hp
    unfold facL at hp
    simp only [List.mem_append] at hp
    rcases hp with ((hp | hp) | hp) | hp
    · split at hp
      · obtain rfl := List.mem_singleton.mp hp
        have := TL.numL_ne t.c.natAbs
        exact this
      · cases hp
    · exact pwF_ne p hp
    · exact pwF_ne p hp
    · exact pwF_ne p hp
theorem wd_nil {b : Bool} {ts : List Tm} (h : ∀ t ∈ ts, SmT t) : (wdL b ts).flatten = [] ↔ ts = [] := by
  cases ts with
  | nil => exact ⟨fun _ => rfl, fun _ => rfl⟩
  | cons t ts =>
    refine ⟨fun z => ?_, fun z => nomatch z⟩
    have : tmL t ∈ wdL b (t :: ts) := by
      show tmL t ∈ sgF b t.c :: tmL t :: wdL false ts
      simp
    exact absurd (List.flatten_eq_nil_iff.mp z _ this) (tmL_ne (h t List.mem_cons_self))
theorem txL_or {ts : List Tm} : txL ts = if ts = [] then [48] else (wdL true ts).flatten := rfl
section
variable {P : Program} {w : World} {K : PySem.W.Frag} {mg : Str → Option Value} {base : Heap}
abbrev s__law_text : Stmt := topS 44
theorem sc__law_text : FnScope ["due", "text", "c", "i", "j", "k", "parts", "name", "power"] ["due"] (defScope s__law_text) := ⟨rfl, rfl, rfl, by decide +kernel, rfl, by decide +kernel, by decide +kernel⟩
def sp__law_text (K : PySem.W.Frag) : Sp := fun vs H Q _ => ∃ (a : Addr) (ts : List Tm), vs = [.ref a] ∧ TmT K H a ts ∧ (∀ t ∈ ts, SmT t) ∧ ts.length ≤ 10000 ∧ ∀ H', Ch [] H H' → Q (.str (S (txL ts))) H'
theorem c__law_text (T : Txt mg) (z_str : mg "str" = none) {f : Addr} {fd : FuncData} (F : DefF K mg "_law_text" s__law_text ["due"] f fd) : Cal P w K mg base 1 "_law_text" (sp__law_text K) := by
  refine cal_of F sc__law_text (fun vs H Q E h => by obtain ⟨_, _, rfl, _⟩ := h; rfl) (fun cdv A outer s H vs Q E hr h => ?_)
  obtain ⟨a, ts, rfl, ⟨xs, ha, hm⟩, hs, hl, q⟩ := h
  refine ⟨_, (pss_cons (ps_set (i := 1) sc__law_text.nd rfl (Or.inl rfl) pe_str)
 (pss_cons (ps_for PassesOwn.never rfl (k_piT (K := K) rfl (pv 0)) (k_gtup (K := K) (n := 4) rfl rfl (pgs_cons (pg_name (i := 2) sc__law_text.nd rfl (Or.inl rfl)) (pgs_cons (pg_name (i := 3) sc__law_text.nd rfl (Or.inl rfl)) (pgs_cons (pg_name (i := 4) sc__law_text.nd rfl (Or.inl rfl)) (pgs_cons (pg_name (i := 5) sc__law_text.nd rfl (Or.inl rfl)) pgs_nil))))) (pss_cons (ps_set (i := 6) sc__law_text.nd rfl (Or.inl rfl) (pe_lst pa_nil))
 (Evl.pss_cut (ps_if (PW.pt (pw_or (pt_cmpR op_ne (pe_callB cb_abs (by rfl) T.z_abs (by decide +kernel) (pa_cons (pv 2) pa_nil)) pe_int (nomark _)) (pw_or1 (pt_cmpR op_eq (pe_op op_add (pe_op op_add (pv 3) (pv 4)) (pv 5)) pe_int (nomark _))))) (pss_one (ps_expr (pe_bm PySem.F.plainAttrs_list PySem.F.slot_list_append PySem.F.type_list_append mt_append (pv 6) (pa_cons (pe_callTy cb_strI (by rfl) z_str (by decide +kernel) (pa_cons (pe_callB cb_abs (by rfl) T.z_abs (by decide +kernel) (pa_cons (pv 2) pa_nil)) pa_nil)) pa_nil)))) pss_nil)
 (pss_cons (ps_for PassesOwn.never rfl (k_piL (K := K) rfl (pe_lst (pa_cons (pe_tup (pa_cons pe_str (pa_cons (pv 3) pa_nil))) (pa_cons (pe_tup (pa_cons pe_str (pa_cons (pv 4) pa_nil))) (pa_cons (pe_tup (pa_cons pe_str (pa_cons (pv 5) pa_nil))) pa_nil))))) (k_gtup (K := K) (n := 2) rfl rfl (pgs_cons (pg_name (i := 7) sc__law_text.nd rfl (Or.inl rfl)) (pgs_cons (pg_name (i := 8) sc__law_text.nd rfl (Or.inl rfl)) pgs_nil))) (pss_one (ps_if (pt_cmpR op_eq (pv 8) pe_int (nomark _)) (pss_one (ps_expr (pe_bm PySem.F.plainAttrs_list PySem.F.slot_list_append PySem.F.type_list_append mt_append (pv 6) (pa_cons (pv 7) pa_nil)))) (pss_one (ps_if (pt_cmpR op_gt (pv 8) pe_int (nomark _)) (pss_one (ps_expr (pe_bm PySem.F.plainAttrs_list PySem.F.slot_list_append PySem.F.type_list_append mt_append (pv 6) (pa_cons (pe_op op_addS (pe_op op_addS (pv 7) pe_str) (pe_callTy cb_strI (by rfl) z_str (by decide +kernel) (pa_cons (pv 8) pa_nil))) pa_nil)))) pss_nil)))))
 (pss_one (ps_if (pt_cmpR op_eq (pv 1) pe_str (nomark _)) (pss_one (ps_set (i := 1) sc__law_text.nd rfl (Or.inl rfl) (pe_op op_addS (pe_ix (k_ixL (K := K) rfl) (pe_lst (pa_cons pe_str (pa_cons pe_str pa_nil))) (pe_callTy cb_int (by rfl) T.z_int (by decide +kernel) (pa_cons (pe_cmpR op_lt (pv 2) pe_int (nomark _)) pa_nil)) (fun _ _ => rfl)) (pe_bm PySem.F.plainAttrs_str PySem.F.slot_str_join PySem.F.type_str_join (k_join (K := K) rfl) pe_str (pa_cons (pv 6) pa_nil))))) (pss_one (ps_set (i := 1) sc__law_text.nd rfl (Or.inl rfl) (pe_op op_addS (pe_op op_addS (pv 1) (pe_ix (k_ixL (K := K) rfl) (pe_lst (pa_cons pe_str (pa_cons pe_str pa_nil))) (pe_callTy cb_int (by rfl) T.z_int (by decide +kernel) (pa_cons (pe_cmpR op_lt (pv 2) pe_int (nomark _)) pa_nil)) (fun _ _ => rfl))) (pe_bm PySem.F.plainAttrs_str PySem.F.slot_str_join PySem.F.type_str_join (k_join (K := K) rfl) pe_str (pa_cons (pv 6) pa_nil)))))))))))
 (pss_one (ps_ret (k_orT (K := K) rfl (pv 1) pe_str))))), ?_⟩
  refine w_start (σ := [some _, none, none, none, none, none, none, none, none]) rfl ?_
  walk_at "go"
  have big : (10000000 : Nat) < sizeLine := by decide
  rw [lit_empty]
  refine for_eT (E := Tme K) (ls := ts) (Pv := fun i σ H' => Ch [] H H' ∧ ∃ z1 z2 z3 z4 z5 z6 z7, σ = [some (.ref a), some (.str (S (wdL true (ts.take i)).flatten)), z1, z2, z3, z4, z5, z6, z7]) hm.len ⟨.refl, _, _, _, _, _, _, _, rfl⟩ (fun i σ H' _ h => ⟨h.1.sqT ha, hm.chm h.1⟩) ?_ ?_
  · rintro i t x σ H' ht ⟨c, z1, z2, z3, z4, z5, z6, z7, rfl⟩ hx
    obtain ⟨b1, rfl, hb1⟩ := hx
    have sm := hs t (List.mem_of_getElem? ht)
    obtain ⟨x0, x1, x2⟩ := sm.e
    have wl := wdL_len (b := true) (ts := ts.take i) fun t m => hs t (List.mem_of_mem_take m)
    have wn := wd_nil (b := true) (ts := ts.take i) fun t m => hs t (List.mem_of_mem_take m)
    have ei : ts.take i = [] ↔ i = 0 := by
      have := lt_of_get ht
      constructor
      · intro z
        have := congrArg List.length z
        rw [List.length_take] at this
        simp only [List.length_nil] at this
        omega
      · rintro rfl
        rfl
    have nx := wdL_snoc true (ts.take i) t
    rw [← take_snoc ht] at nx
    rw [nx, List.flatten_append]
    have wl1 : (wdL true (ts.take i)).flatten.length ≤ 7100000 := by
      rw [List.length_flatten]
      rw [List.length_take] at wl
      omega
    have tl1 := tmL_len sm
    generalize (wdL true (ts.take i)).flatten = X at wn wl1 ⊢
    walk_at "go"
    refine w_newL (show 0 ≤ sizeLine by decide) fun l H1 n1 c1 h1 => ?_
    walk_at "go"
    have c1 := c.trans c1
    have nl : H l = none := c.free n1
    refine w_cut (M := fun σ' H2 => Ch [] H H2 ∧ H2 l = some (.lst (svs (if t.c.natAbs ≠ 1 ∨ t.i + t.j + t.k = 0 then [numL t.c.natAbs] else []))) ∧ ∃ z1 z2, σ' = [some (.ref a), some (.str (S X)), some (.int t.c), some (.int t.i), some (.int t.j), some (.int t.k), some (.ref l), z1, z2]) ?_ ?_
    · walk_at "go"
      refine ite_nd (fun h => ?_) (fun h => ?_)
      · walk_at "go"
        refine ⟨.inl ⟨rfl, _, .of h1⟩, ?_⟩
        walk_at "go"
        refine w_strI (by rw [Int.natAbs_natCast]; exact sm.c) ?_
        walk_at "go"
        refine w_append h1 (show 0 < sizeLine by decide) fun H5 c5 h5 => ?_
        refine ⟨c1.cut nl c5, ?_, _, _, rfl⟩
        rw [h5, if_pos (.inl (by omega)), intL_pos (by omega)]
        rfl
      · walk_at "go"
        refine ite_d (fun h0 => ?_) (fun h0 => ?_)
        · walk_at "go"
          refine ⟨.inl ⟨rfl, _, .of h1⟩, ?_⟩
          walk_at "go"
          refine w_strI (by rw [Int.natAbs_natCast]; exact sm.c) ?_
          walk_at "go"
          refine w_append h1 (show 0 < sizeLine by decide) fun H5 c5 h5 => ?_
          refine ⟨c1.cut nl c5, ?_, _, _, rfl⟩
          rw [h5, if_pos (.inr (by omega)), intL_pos (by omega)]
          rfl
        · walk_at "go"
          refine ⟨c1, ?_, _, _, rfl⟩
          rw [h1, if_neg (by omega)]
          rfl
    rintro σ' H2 ⟨c2, h2, z1, z2, rfl⟩
    generalize hF : (if t.c.natAbs ≠ 1 ∨ t.i + t.j + t.k = 0 then [numL t.c.natAbs] else []) = F0 at h2
    walk_at "go"
    refine w_newT (show 2 ≤ sizeLine by decide) fun p1 H3 n3 c3 h3 => ?_
    walk_at "go"
    refine w_newT (show 2 ≤ sizeLine by decide) fun p2 H4 n4 c4 h4 => ?_
    walk_at "go"
    refine w_newT (show 2 ≤ sizeLine by decide) fun p3 H5 n5 c5 h5 => ?_
    walk_at "go"
    refine w_newL (show 3 ≤ sizeLine by decide) fun lp H6 n6 c6 h6 => ?_
    have c26 := c3.trans (c4.trans (c5.trans c6))
    have hl6 := c26.at0 h2
    have nlp : l ≠ lp := ne_of_none ((c3.trans (c4.trans c5)).at0 h2) n6
    have pwE : ∀ k, k < 3 → exN k t ≤ 90000 := fun k hk => by
      obtain rfl | rfl | rfl : k = 0 ∨ k = 1 ∨ k = 2 := by omega
      · exact sm.i
      · exact sm.j
      · exact sm.k
    have F0l : F0.length ≤ 1 := by rw [← hF]; split <;> simp
    refine w_iLr (.of h6) ?_
    refine for_w (walk_list (K := K) (a := lp) (xs := [.ref p1, .ref p2, .ref p3])) (fun i σ H' => Ch [] H H' ∧ H' l = some (.lst (svs (F0 ++ (List.range i).flatMap fun n => pwF (120 + n) (exN n t)))) ∧ H' lp = some (.lst [.ref p1, .ref p2, .ref p3]) ∧ SqT K H' p1 [.str (usN 0), .int (exN 0 t)] ∧ SqT K H' p2 [.str (usN 1), .int (exN 1 t)] ∧ SqT K H' p3 [.str (usN 2), .int (exN 2 t)] ∧ ∃ z1 z2, σ = [some (.ref a), some (.str (S X)), some (.int t.c), some (.int t.i), some (.int t.j), some (.int t.k), some (.ref l), z1, z2])
      ⟨c2.trans c26, by simpa using hl6, h6, (c4.trans (c5.trans c6)).sqT (.of h3), (c5.trans c6).sqT (.of h4), c6.sqT (.of h5), _, _, rfl⟩ (fun i σ H' _ h => .of h.2.2.1) ?_ ?_
    · rintro k x σ HH H4 hk ⟨c, hl, hlp, q1, q2, q3, z1, z2, rfl⟩ ⟨rfl, hy⟩
      have hk : k < 3 := hk
      have hb : ∃ b, x = .ref b ∧ SqT K H4 b [.str (usN k), .int (exN k t)] := by
        obtain rfl | rfl | rfl : k = 0 ∨ k = 1 ∨ k = 2 := by omega
        · cases hy; exact ⟨_, rfl, q1⟩
        · cases hy; exact ⟨_, rfl, q2⟩
        · cases hy; exact ⟨_, rfl, q3⟩
      obtain ⟨b, rfl, hb⟩ := hb
      have len4 : (F0 ++ (List.range k).flatMap fun n => pwF (120 + n) (exN n t)).length ≤ 4 := by
        rw [List.length_append]
        have e0 := (pwF_len (n := 120 + 0) (pwE 0 (by decide))).2
        have e1 := (pwF_len (n := 120 + 1) (pwE 1 (by decide))).2
        obtain rfl | rfl | rfl : k = 0 ∨ k = 1 ∨ k = 2 := by omega
        · simp; omega
        · simp only [List.range_one, List.flatMap_cons, List.flatMap_nil, List.append_nil]; omega
        · simp only [show List.range 2 = [0, 1] from rfl, List.flatMap_cons, List.flatMap_nil, List.append_nil, List.length_append]; omega
      have nx : (F0 ++ (List.range (k + 1)).flatMap fun n => pwF (120 + n) (exN n t)) = (F0 ++ (List.range k).flatMap fun n => pwF (120 + n) (exN n t)) ++ pwF (120 + k) (exN k t) := by
        rw [List.range_succ, List.flatMap_append, List.append_assoc]
        simp
      rw [nx]
      generalize (F0 ++ (List.range k).flatMap fun n => pwF (120 + n) (exN n t)) = F1 at hl len4 ⊢
      have pk := pwE k hk
      have app : ∀ (v : List Nat) (n : Nat), pwF n (exN k t) = [v] → ∀ Hx, Ch [] H4 Hx → n = 120 + k → rAppend (.ref l) [.str (S v)] Hx fun _ H5 => Ch [] H H5 ∧ H5 l = some (.lst (svs (F1 ++ pwF (120 + k) (exN k t)))) ∧ H5 lp = some (.lst [.ref p1, .ref p2, .ref p3]) ∧ SqT K H5 p1 [.str (usN 0), .int (exN 0 t)] ∧ SqT K H5 p2 [.str (usN 1), .int (exN 1 t)] ∧ SqT K H5 p3 [.str (usN 2), .int (exN 2 t)] := fun v n e Hx cx en => by
        subst en
        refine w_append (cx.at0 hl) (by rw [List.length_map]; omega) fun H5 c5 h5 => ?_
        refine ⟨(c.trans cx).cut nl c5, ?_, c5.at1 nlp.symm (cx.at0 hlp), c5.sqT (cx.sqT q1), c5.sqT (cx.sqT q2), c5.sqT (cx.sqT q3)⟩
        rw [h5, e]
        unfold svs
        rw [List.map_append]
        rfl
      walk_at "go"
      refine ite_d (fun h => ?_) (fun h => ?_)
      · walk_at "go"
        refine ⟨.inl ⟨rfl, _, .of hl⟩, ?_⟩
        walk_at "go"
        rw [usN_S hk]
        have := app [120 + k] _ (by unfold pwF; rw [if_pos h]) _ .refl rfl
        obtain ⟨_, _, _, e1, e2, e3, e4, e5, e6, e7, e8, e9, e10⟩ := this
        exact ⟨_, _, _, e1, e2, e3, e4, e5, e6, e7, e8, e9, e10, _, _, rfl⟩
      walk_at "go"
      refine ite_d (fun h2 => ?_) (fun h2 => ?_)
      · walk_at "go"
        refine ⟨.inl ⟨rfl, _, .of hl⟩, ?_⟩
        walk_at "go"
        have il := intL_len (n := exN k t) (k := 5) (by decide) (by omega)
        rw [usN_S hk, lit_hat]
        refine w_addS (by rw [S_len, S_len]; exact Nat.le_trans (show 2 ≤ 20 by decide) (by omega)) ?_
        rw [S_cat]
        walk_at "go"
        refine w_strI (Nat.lt_of_lt_of_le (show (exN k t).natAbs < 2 ^ 20 by omega) (Nat.pow_le_pow_right (by decide) (by decide))) ?_
        refine w_addS (by rw [S_len, S_len]; simp only [List.length_append, List.length_cons, List.length_nil]; omega) ?_
        rw [S_cat]
        have := app ([120 + k] ++ [94] ++ intL (exN k t)) _ (by unfold pwF; rw [if_neg h, if_pos h2]; rfl) _ .refl rfl
        obtain ⟨_, _, _, e1, e2, e3, e4, e5, e6, e7, e8, e9, e10⟩ := this
        exact ⟨_, _, _, e1, e2, e3, e4, e5, e6, e7, e8, e9, e10, _, _, rfl⟩
      · walk_at "go"
        refine ⟨c, ?_, hlp, q1, q2, q3, _, _, rfl⟩
        rw [hl]
        unfold pwF
        rw [if_neg h, if_neg h2, List.append_nil]
    · rintro σ H7 ⟨c, hl, hlp, q1, q2, q3, z1, z2, rfl⟩
      have e : F0 ++ ((List.range 3).flatMap fun n => pwF (120 + n) (exN n t)) = facL t := by
        unfold facL
        rw [hF]
        show F0 ++ (pwF 120 t.i ++ (pwF 121 t.j ++ (pwF 122 t.k ++ []))) = _
        rw [List.append_nil, List.append_assoc, List.append_assoc]
      have hl : H7 l = some (.lst (svs (facL t))) := by rw [← e]; exact hl
      have fl := facL_len sm
      walk_at "go"
      refine ite_d (fun h => ?_) (fun h => ?_)
      · have h : X = [] := S_inj h
        have i0 := ei.mp (wn.mp h)
        have t0 : (ts.take i).isEmpty = true := by rw [i0]; rfl
        walk_at "go"
        refine w_newL (show 2 ≤ sizeLine by decide) fun l2 H8 n8 c8 h8 => ?_
        walk_at "go"
        refine w_ixL (.of h8) (v := .str (S (sgF true t.c))) ?_ ?_
        · by_cases hc : t.c < 0
          · rw [show sgF true t.c = [45] from by unfold sgF; rw [if_pos rfl, if_pos hc], decide_eq_true hc, lit_minus]
            rfl
          · rw [show sgF true t.c = [] from by unfold sgF; rw [if_pos rfl, if_neg hc], decide_eq_false hc]
            rfl
        walk_at "go"
        rw [lit_star]
        refine w_joinS (.of (c8.at0 hl)) (by show _ + _ * 1 ≤ _; omega) ?_
        have sl : (sgF true t.c).length ≤ 3 := by unfold sgF; split <;> split <;> decide
        have jl : (joinL [42] (facL t)).length ≤ 700 := tl1
        refine w_addS (by rw [S_len, S_len]; omega) ?_
        rw [S_cat]
        have eX : X ++ [sgF (true && (ts.take i).isEmpty) t.c, tmL t].flatten = sgF true t.c ++ joinL [42] (facL t) := by
          rw [h, t0]
          simp only [Bool.true_and, List.flatten_cons, List.flatten_nil, List.append_nil, List.nil_append]
          rfl
        rw [eX]
        exact ⟨c.trans c8, _, _, _, _, _, _, _, rfl⟩
      · have h : ¬ X = [] := fun e => h (by rw [e])
        have i0 : ¬ ts.take i = [] := fun e => h (wn.mpr e)
        have t0 : (ts.take i).isEmpty = false := by
          cases hh : ts.take i with
          | nil => exact absurd hh i0
          | cons _ _ => rfl
        walk_at "go"
        refine w_newL (show 2 ≤ sizeLine by decide) fun l2 H8 n8 c8 h8 => ?_
        walk_at "go"
        refine w_ixL (.of h8) (v := .str (S (sgF false t.c))) ?_ ?_
        · by_cases hc : t.c < 0
          · rw [show sgF false t.c = [32, 45, 32] from by unfold sgF; rw [if_neg Bool.false_ne_true, if_pos hc], decide_eq_true hc, lit_sm, lit_sp]
            rfl
          · rw [show sgF false t.c = [32, 43, 32] from by unfold sgF; rw [if_neg Bool.false_ne_true, if_neg hc], decide_eq_false hc, lit_sm, lit_sp]
            rfl
        have sl : (sgF false t.c).length ≤ 3 := by unfold sgF; split <;> split <;> decide
        have jl : (joinL [42] (facL t)).length ≤ 700 := tl1
        refine w_addS (by rw [S_len, S_len]; omega) ?_
        rw [S_cat]
        walk_at "go"
        rw [lit_star]
        refine w_joinS (.of (c8.at0 hl)) (by show _ + _ * 1 ≤ _; omega) ?_
        refine w_addS (by rw [S_len, S_len, List.length_append]; omega) ?_
        rw [S_cat]
        have eX : X ++ [sgF (true && (ts.take i).isEmpty) t.c, tmL t].flatten = X ++ sgF false t.c ++ joinL [42] (facL t) := by
          rw [t0, List.append_assoc]
          simp only [Bool.true_and, List.flatten_cons, List.flatten_nil, List.append_nil]
          rfl
        rw [eX]
        exact ⟨c.trans c8, _, _, _, _, _, _, _, rfl⟩
  · rintro σ H' ⟨c, z1, z2, z3, z4, z5, z6, z7, rfl⟩
    rw [List.take_length]
    walk_at "go"
    have wl := wdL_len (b := true) hs
    have wn := wd_nil (b := true) hs
    refine rorS (by rw [S_len, List.length_flatten]; omega) (fun h => ?_) (fun h => ?_)
    · rw [S_len] at h
      have := q H' c
      rw [txL_or, if_neg (fun e => h (by rw [wn.mpr e]; rfl))] at this
      exact this
    · rw [S_len] at h
      have := q H' c
      rw [txL_or, if_pos (wn.mp (List.eq_nil_of_length_eq_zero h))] at this
      walk_at "go"
      rw [lit_zero]
      exact this
end
end My
namespace My
open PySem PySem.Spec PyProof.Rows L2
open SX (S S_cat S_len S_tl S_inj)
theorem gcd_bd {n d : Int} {b : Nat} (hd : 0 < d) (hb : d.natAbs < 2 ^ b) : 0 < Nat.gcd n.natAbs d.natAbs ∧ ((Nat.gcd n.natAbs d.natAbs : Nat) : Int).natAbs < 2 ^ b := by
  have p : 0 < d.natAbs := by omega
  refine ⟨Nat.gcd_pos_of_pos_right _ p, ?_⟩
  rw [Int.natAbs_natCast]
  exact Nat.lt_of_le_of_lt (Nat.gcd_le_right _ p) hb
theorem fdiv_le {n g : Int} (hg : 0 < g) : (n.fdiv g).natAbs ≤ n.natAbs := by
  rw [Int.fdiv_eq_ediv_of_nonneg n (by omega)]
  rcases Int.lt_or_le n 0 with h | h
  · have h1 : n ≤ n / g := by
      rw [Int.le_ediv_iff_mul_le hg]
      have : n * (g - 1) ≤ 0 := Int.mul_nonpos_of_nonpos_of_nonneg (by omega) (by omega)
      rw [Int.mul_sub, Int.mul_one] at this
      omega
    have h2 : n / g < 0 := Int.ediv_neg_of_neg_of_pos h hg
    omega
  · have h1 : n / g ≤ n := Int.ediv_le_self g h
    have h2 : 0 ≤ n / g := Int.ediv_nonneg h (by omega)
    omega
/-! sizes of gathered coefficients -/
theorem cf_bd {z : Nat} (e : Ex) : ∀ {ts : List Tm}, Cb z ts → (cf ts e).natAbs ≤ ts.length * 2 ^ z
  | [], _ => Nat.zero_le _
  | t :: ts, h => by
    have ih := cf_bd e (ts := ts) fun u m => h u (List.mem_cons_of_mem _ m)
    have := h t List.mem_cons_self
    rw [cf_cons, List.length_cons, Nat.add_mul, Nat.one_mul]
    split <;> omega
theorem cb_of_cf {z y : Nat} {ts us : List Tm} (n : Nf us) (h : ∀ e, cf us e = cf ts e) (b : Cb z ts) (l : ts.length ≤ 2 ^ y) : Cb (z + y + 1) us := by
  intro u m
  have := (n.mem.mp m).2
  rw [← this, h]
  have a := cf_bd u.e b
  have c : ts.length * 2 ^ z ≤ 2 ^ y * 2 ^ z := Nat.mul_le_mul_right _ l
  have e : 2 ^ (z + y + 1) = 2 ^ y * 2 ^ z * 2 := by rw [Nat.pow_succ, Nat.pow_add, Nat.mul_comm (2 ^ z)]
  have : 0 < 2 ^ y * 2 ^ z := Nat.mul_pos (Nat.two_pow_pos _) (Nat.two_pow_pos _)
  omega
/-- a gathered polynomial within bounds -/
structure Fin0 (z k : Nat) (ts : List Tm) : Prop where
  nf : Nf ts
  c : Cb z ts
  e : ExpOk ts
  i : ∀ t ∈ ts, t.i ≤ k ∧ t.j ≤ k ∧ t.k ≤ k
theorem Fin0.sm {z k : Nat} {ts : List Tm} (h : Fin0 z k ts) (hz : z ≤ 1900) (hk : k ≤ 90000) : ∀ t ∈ ts, SmT t := fun t m => ⟨Nat.lt_of_lt_of_le (h.c t m) (Nat.pow_le_pow_right (by decide) hz), h.e t m, by have := (h.i t m).1; omega, by have := (h.i t m).2.1; omega, by have := (h.i t m).2.2; omega⟩
theorem Fin0.of {z y k : Nat} {ts us : List Tm} (n : Nf us) (h : ∀ e, cf us e = cf ts e) (b : Cb z ts) (l : ts.length ≤ 2 ^ y) (ex : ExpOk ts) (i : ∀ t ∈ ts, t.i ≤ k ∧ t.j ≤ k ∧ t.k ≤ k) : Fin0 (z + y + 1) k us := by
  refine ⟨n, cb_of_cf n h b l, fun u m => ?_, fun u m => ?_⟩
  · obtain ⟨t, mt, e⟩ := n.mem_of h m
    have := ex t mt
    have e1 := congrArg (·.1) e
    have e2 := congrArg (·.2.1) e
    have e3 := congrArg (·.2.2) e
    simp only [Tm.e] at e1 e2 e3
    omega
  · obtain ⟨t, mt, e⟩ := n.mem_of h m
    have := i t mt
    have e1 := congrArg (·.1) e
    have e2 := congrArg (·.2.1) e
    have e3 := congrArg (·.2.2) e
    simp only [Tm.e] at e1 e2 e3
    omega
theorem mem_mulT {ts us : List Tm} {w : Tm} (h : w ∈ mulT ts us) : ∃ t ∈ ts, ∃ u ∈ us, w = t.mul u := by
  unfold mulT at h
  obtain ⟨t, mt, h⟩ := List.mem_flatMap.mp h
  obtain ⟨u, mu, rfl⟩ := List.mem_map.mp h
  exact ⟨t, mt, u, mu, rfl⟩
theorem Fin0.mul {z y k j b : Nat} {ts us rs : List Tm} (h : Fin0 z k ts) (h' : Fin0 y j us) (n : Nf rs) (e : ∀ e, cf rs e = cf (mulT ts us) e) (l : ts.length * us.length ≤ 2 ^ b) : Fin0 (z + y + b + 1) (k + j) rs := by
  refine Fin0.of n e ?_ (by rw [len_mul]; exact l) ?_ ?_
  · intro w hw
    obtain ⟨t, mt, u, mu, rfl⟩ := mem_mulT hw
    show (t.c * u.c).natAbs < _
    rw [Int.natAbs_mul, Nat.pow_add]
    have a := h.c t mt
    have b := h'.c u mu
    exact Nat.lt_of_le_of_lt (Nat.mul_le_mul_left _ (Nat.le_of_lt b)) (Nat.mul_lt_mul_of_pos_right a (Nat.two_pow_pos _))
  · intro w hw
    obtain ⟨t, mt, u, mu, rfl⟩ := mem_mulT hw
    have a := h.e t mt
    have b := h'.e u mu
    show 0 ≤ t.i + u.i ∧ 0 ≤ t.j + u.j ∧ 0 ≤ t.k + u.k
    omega
  · intro w hw
    obtain ⟨t, mt, u, mu, rfl⟩ := mem_mulT hw
    have a := h.i t mt
    have b := h'.i u mu
    show t.i + u.i ≤ (k + j : Nat) ∧ t.j + u.j ≤ (k + j : Nat) ∧ t.k + u.k ≤ (k + j : Nat)
    omega
section
variable {P : Program} {w : World} {K : PySem.W.Frag} {mg : Str → Option Value} {base : Heap}
abbrev s__law_fraction : Stmt := topS 47
theorem sc__law_fraction : FnScope ["box", "n", "d", "common"] ["box"] (defScope s__law_fraction) := ⟨rfl, rfl, rfl, by decide +kernel, rfl, by decide +kernel, by decide +kernel⟩
def sp__law_fraction (K : PySem.W.Frag) : Sp := fun vs H Q _ => ∃ (b c : Addr), vs = [.ref b] ∧ Box H b c ∧ ∀ (t : Addr) (n d : Int) H', 0 < d → n.natAbs < 2 ^ 58 → d.natAbs < 2 ^ 58 → Ch [b] H H' → Box H' b c → SqT K H' t (ivs [n, d]) → Q (.ref t) H'
theorem c__law_fraction (T : Txt mg) (C__law_draw : Cal P w K mg base 2 "_law_draw" sp__law_draw) (C__law_number : Cal P w K mg base 3 "_law_number" sp__law_number) (C__law_gcd : Cal P w K mg base 1 "_law_gcd" sp__law_gcd)
    {f : Addr} {fd : FuncData} (F : DefF K mg "_law_fraction" s__law_fraction ["box"] f fd) : Cal P w K mg base 4 "_law_fraction" (sp__law_fraction K) := by
  refine cal_of F sc__law_fraction (fun vs H Q E h => by obtain ⟨_, _, rfl, _⟩ := h; rfl) (fun cdv A outer s H vs Q E hr h => ?_)
  obtain ⟨b, c, rfl, B, q⟩ := h
  refine ⟨_, (pss_cons (ps_set (i := 1) sc__law_fraction.nd rfl (Or.inl rfl) (pe_op op_sub (pe_cc C__law_draw hr (by decide) (by rfl) (pa_cons (pv 0) (pa_cons pe_int pa_nil))) pe_int))
 (pss_cons (ps_set (i := 2) sc__law_fraction.nd rfl (Or.inl rfl) (pe_op op_add pe_int (pe_cc C__law_draw hr (by decide) (by rfl) (pa_cons (pv 0) (pa_cons pe_int pa_nil)))))
 (Evl.pss_cut (ps_if (pt_cmpR op_eq (pe_cc C__law_draw hr (by decide) (by rfl) (pa_cons (pv 0) (pa_cons pe_int pa_nil))) pe_int (nomark _)) (pss_cons (ps_set (i := 1) sc__law_fraction.nd rfl (Or.inl rfl) (pe_cc C__law_number hr (by decide) (by rfl) (pa_cons (pv 0) (pa_cons pe_int pa_nil))))
 (pss_one (ps_set (i := 2) sc__law_fraction.nd rfl (Or.inl rfl) (pe_op op_add pe_int (pe_cc C__law_draw hr (by decide) (by rfl) (pa_cons (pv 0) (pa_cons (pe_op op_pow pe_int pe_int) pa_nil))))))) pss_nil)
 (pss_cons (ps_set (i := 3) sc__law_fraction.nd rfl (Or.inl rfl) (pe_cc C__law_gcd hr (by decide) (by rfl) (pa_cons (pv 1) (pa_cons (pv 2) pa_nil))))
 (pss_one (ps_ret (pe_tup (pa_cons (pe_op op_fdivG (pv 1) (pv 3)) (pa_cons (pe_op op_fdivG (pv 2) (pv 3)) pa_nil))))))))), ?_⟩
  refine w_start (σ := [some _, none, none, none]) rfl ?_
  walk_at "go"
  refine ⟨b, c, 21, rfl, B, by decide, by decide, fun r1 H1 r10 r11 c1 B1 => ?_⟩
  walk_at "go"
  refine ⟨b, c, 6, rfl, B1, by decide, by decide, fun r2 H2 r20 r21 c2 B2 => ?_⟩
  walk_at "go"
  refine w_cut (M := fun σ' H' => Ch [b] H H' ∧ Box H' b c ∧ ∃ n d : Int, σ' = [some (.ref b), some (.int n), some (.int d), none] ∧ 0 < d ∧ n.natAbs < 2 ^ 58 ∧ d.natAbs < 2 ^ 58) ?_ ?_
  · walk_at "go"
    refine ⟨b, c, 8, rfl, B2, by decide, by decide, fun r3 H3 r30 r31 c3 B3 => ?_⟩
    walk_at "go"
    refine ite_d (fun h0 => ?_) (fun h0 => ?_)
    · walk_at "go"
      refine ⟨b, c, 2, rfl, B3, by decide, fun z H4 hz c4 B4 => ?_⟩
      walk_at "go"
      refine ⟨b, c, 100000000, rfl, B4, by decide, by decide, fun y H5 y0 y1 c5 B5 => ?_⟩
      walk_at "go"
      exact ⟨(((c1.trans c2).trans c3).trans c4).trans c5, B5, z, 1 + y, rfl, by omega, hz, by omega⟩
    · walk_at "go"
      exact ⟨(c1.trans c2).trans c3, B3, r1 - 10, 1 + r2, rfl, by omega, by omega, by omega⟩
  rintro σ' H3 ⟨c3, B3, n, d, rfl, hd, hn, hdf⟩
  walk_at "go"
  refine ⟨n, d, 58, rfl, hdf, by decide, ?_⟩
  obtain ⟨g0, gb⟩ := gcd_bd (n := n) hd hdf
  walk_at "go"
  refine w_I (div_ok (by omega) gb (by decide)) ?_
  walk_at "go"
  refine w_I (div_ok (by omega) gb (by decide)) ?_
  walk_at "go"
  refine w_newT (show 2 ≤ sizeLine by decide) fun t H4 n4 c4 ht => ?_
  refine q t _ _ _ ?_ ?_ ?_ (c3.trans0 c4) (B3.mono c4) (.of ht)
  · rw [Int.fdiv_eq_ediv_of_nonneg _ (by omega)]
    have dv : ((Nat.gcd n.natAbs d.natAbs : Nat) : Int) ∣ d := by
      have := Nat.gcd_dvd_right n.natAbs d.natAbs
      exact Int.ofNat_dvd_left.mpr this
    exact Int.ediv_pos_of_pos_of_dvd hd (by omega) dv
  · exact Nat.lt_of_le_of_lt (fdiv_le (by omega)) hn
  · exact Nat.lt_of_le_of_lt (fdiv_le (by omega)) hdf
abbrev s__law_equal : Stmt := topS 45
theorem sc__law_equal : FnScope ["p", "q", "due", "told"] ["p", "q", "due"] (defScope s__law_equal) := ⟨rfl, rfl, rfl, by decide +kernel, rfl, by decide +kernel, by decide +kernel⟩
def sp__law_equal (K : PySem.W.Frag) (C : Addr) : Sp := fun vs H Q _ => ∃ (p : Addr) (v : V) (d : Bool) (ts : List Tm), vs = [.ref p, v, .bl d] ∧ Po K C H p ts ∧ ((∃ q us, v = .ref q ∧ Po K C H q us ∧ d = decide (ts = us)) ∨ ∃ ty, ty ∈ (["tuple", "list", "str", "NoneType", "int", "bool"] : List String) ∧ TyOf K H v (.type ty) ∧ d = false) ∧ Q (.bl true) H
theorem c__law_equal {A_Poly : Addr} (T : Txt mg) (T_P : PolyK K mg A_Poly) (C_P_eq : CalM P w K mg base 1 A_Poly "__eq__" (sp_P_eq K A_Poly)) {f : Addr} {fd : FuncData} (F : DefF K mg "_law_equal" s__law_equal ["p", "q", "due"] f fd) : Cal P w K mg base 3 "_law_equal" (sp__law_equal K A_Poly) := by
  refine cal_of F sc__law_equal (fun vs H Q E h => by obtain ⟨_, _, _, _, rfl, _⟩ := h; rfl) (fun cdv A outer s H vs Q E hr h => ?_)
  obtain ⟨p, v, d, ts, rfl, hp, hv, q⟩ := h
  obtain ⟨dx, t, hp0, ht⟩ := id hp
  refine ⟨_, (pss_cons (ps_set (i := 3) sc__law_equal.nd rfl (Or.inl rfl) (pe_cmpR (k_eqOwn (K := K) rfl C_P_eq hr (by decide)) (pv 0) (pv 1) (nomark _)))
 (pss_one (ps_ret (pe_and (pe_callB (k_isi (K := K) rfl) (by rfl) T.z_isinstance (by decide +kernel) (pa_cons (pv 3) (pa_cons (pe_bltn (by rfl) T.z_bool (by decide +kernel) (v := .ty "bool") rfl) pa_nil))) (pe_one (pe_cmpR op_eq (pv 3) (pv 2) (nomark _))))))), ?_⟩
  refine w_start (σ := [some _, some _, some _, none]) rfl ?_
  walk_at "go"
  rcases hv with ⟨y, us, rfl, hy, rfl⟩ | ⟨ty, mt, et, rfl⟩
  · obtain ⟨dy, u, hy0, hu⟩ := id hy
    refine reqOwn T_P hp0 hy0 ?_
    refine ⟨p, _, ts, rfl, hp, .inl ⟨y, us, rfl, hy, ?_⟩⟩
    walk_at "go"
    refine w_isiBB ?_
    refine ⟨_, rfl, ?_⟩
    walk_at "go"
    simpa using q
  · refine reqOther T_P mt hp0 et ?_
    refine ⟨p, v, ts, rfl, hp, .inr ⟨ty, mt, et, ?_⟩⟩
    walk_at "go"
    refine w_isiBB ?_
    refine ⟨_, rfl, ?_⟩
    walk_at "go"
    exact q
end
end My
namespace My
open PySem PySem.Spec PyProof.Rows L2
open SX (S S_cat S_len S_tl S_inj)
section
variable {K : PySem.W.Frag} {mg : Str → Option Value} {H : Hp} {Q : VK} {C p q : Addr} {ts us : List Tm} {sp : Sp} {x : Str}
theorem rown2 (hp : Po K C H p ts) (hq : Po K C H q us) (h : sp [.ref p, .ref q] H Q E0) : rOwn2 C sp (.ref p) (.ref q) H Q := by
  obtain ⟨dx, t, hp, _⟩ := hp
  obtain ⟨dy, u, hq, _⟩ := hq
  exact ⟨p, q, dx, dy, _, _, rfl, rfl, hp, hq, h⟩
theorem rown1 (hp : Po K C H p ts) (h : sp [.ref p] H Q E0) : rOwn1 C sp (.ref p) H Q := by
  obtain ⟨dx, t, hp, _⟩ := hp
  exact ⟨p, dx, _, rfl, hp, h⟩
theorem rstrOwn (hp : Po K C H p ts) (h : sp [.ref p] H (fun v H' => ∃ z, v = .str z ∧ Q (.str z) H') E0) : rStrOwn C sp [.ref p] H Q := by
  obtain ⟨dx, t, hp, _⟩ := hp
  exact ⟨p, dx, _, rfl, hp, h⟩
theorem w_isiSS (q : Q (.bl true) H) : rIsi K [.str x, .ty "str"] H Q := ⟨_, _, _, _, _, rfl, .ty _, .base (.str x), kit_ty (by decide +kernel), q⟩
end
section
variable {P : Program} {w : World} {K : PySem.W.Frag} {mg : Str → Option Value} {base : Heap}
abbrev s__law_operators : Stmt := topS 46
theorem sc__law_operators : FnScope ["p", "q", "a", "b", "product", "due", "one", "terms", "told", "other"] ["p", "q", "a", "b"] (defScope s__law_operators) := ⟨rfl, rfl, rfl, by decide +kernel, rfl, by decide +kernel, by decide +kernel⟩
def sp__law_operators (K : PySem.W.Frag) (C : Addr) : Sp := fun vs H Q _ => ∃ (p q a b : Addr) (ts us : List Tm), vs = [.ref p, .ref q, .ref a, .ref b] ∧ Po K C H p ts ∧ Po K C H q us ∧ TmT K H a ts ∧ (∃ xs, H a = some (.tup xs)) ∧ TmT K H b us ∧ Fin0 146 12 ts ∧ Fin0 146 12 us ∧ ts.length ≤ 17 ∧ us.length ≤ 17 ∧ ∀ H', Ch [] H H' → Q (.bl true) H'
theorem c__law_operators {A_Poly : Addr} (T : Txt mg) (z_str : mg "str" = none) (T_P : PolyK K mg A_Poly)
    (C_P_add : CalM P w K mg base 6 A_Poly "__add__" (sp_P_sum K A_Poly 1)) (C_P_sub : CalM P w K mg base 6 A_Poly "__sub__" (sp_P_sum K A_Poly (-1))) (C_P_mul : CalM P w K mg base 6 A_Poly "__mul__" (sp_P_mul K A_Poly))
    (C_P_neg : CalM P w K mg base 6 A_Poly "__neg__" (sp_P_neg K A_Poly)) (C_P_str : CalM P w K mg base 7 A_Poly "__str__" (sp_P_str K A_Poly))
    (C__law_is : Cal P w K mg base 2 "_law_is" (sp__law_is K A_Poly)) (C__law_join : Cal P w K mg base 2 "_law_join" (sp__law_join K)) (C__law_multiply : Cal P w K mg base 2 "_law_multiply" (sp__law_multiply K))
    (C__law_text : Cal P w K mg base 1 "_law_text" (sp__law_text K)) (C__law_equal : Cal P w K mg base 3 "_law_equal" (sp__law_equal K A_Poly))
    {f : Addr} {fd : FuncData} (F : DefF K mg "_law_operators" s__law_operators ["p", "q", "a", "b"] f fd) : Cal P w K mg base 10 "_law_operators" (sp__law_operators K A_Poly) := by
  refine cal_of F sc__law_operators (fun vs H Q E h => by obtain ⟨_, _, _, _, _, _, rfl, _⟩ := h; rfl) (fun cdv A outer s H vs Q E hr h => ?_)
  obtain ⟨p, q, a, b, ts, us, rfl, hp, hq, ha, ⟨axs, hat⟩, hb, ft, fu, lt, lu, qq⟩ := h
  have mul17 : ts.length * us.length ≤ 17 * 17 := Nat.mul_le_mul lt lu
  have mul17' : us.length * ts.length ≤ 17 * 17 := Nat.mul_le_mul lu lt
  refine ⟨_, (pss_cons (ps_if (PW.pt (pw_or (pt_not (pt_val (pe_cc C__law_is hr (by decide) (by rfl) (pa_cons (pe_op (op_own C_P_add rfl T_P.sf hr (by decide)) (pv 0) (pv 1)) (pa_cons (pe_cc C__law_join hr (by decide) (by rfl) (pa_cons (pv 2) (pa_cons (pv 3) (pa_cons pe_int pa_nil)))) pa_nil))))) (pw_or1 (pt_not (pt_val (pe_cc C__law_is hr (by decide) (by rfl) (pa_cons (pe_op (op_own C_P_sub rfl T_P.sf hr (by decide)) (pv 0) (pv 1)) (pa_cons (pe_cc C__law_join hr (by decide) (by rfl) (pa_cons (pv 2) (pa_cons (pv 3) (pa_cons (pe_un un_neg pe_int) pa_nil)))) pa_nil)))))))) (pss_one (ps_ret pe_bl)) pss_nil)
 (pss_cons (ps_if (PW.pt (pw_or (pt_not (pt_val (pe_cc C__law_is hr (by decide) (by rfl) (pa_cons (pe_op (op_own C_P_sub rfl T_P.sf hr (by decide)) (pv 1) (pv 0)) (pa_cons (pe_cc C__law_join hr (by decide) (by rfl) (pa_cons (pv 3) (pa_cons (pv 2) (pa_cons (pe_un un_neg pe_int) pa_nil)))) pa_nil))))) (pw_or1 (pt_not (pt_val (pe_cc C__law_is hr (by decide) (by rfl) (pa_cons (pe_un (un_own C_P_neg hr (by decide)) (pv 0)) (pa_cons (pe_cc C__law_join hr (by decide) (by rfl) (pa_cons (pe_tup pa_nil) (pa_cons (pv 2) (pa_cons (pe_un un_neg pe_int) pa_nil)))) pa_nil)))))))) (pss_one (ps_ret pe_bl)) pss_nil)
 (pss_cons (ps_set (i := 4) sc__law_operators.nd rfl (Or.inl rfl) (pe_op (op_own C_P_mul rfl T_P.sf hr (by decide)) (pv 0) (pv 1)))
 (pss_cons (ps_set (i := 5) sc__law_operators.nd rfl (Or.inl rfl) (pe_cc C__law_multiply hr (by decide) (by rfl) (pa_cons (pv 2) (pa_cons (pv 3) pa_nil))))
 (pss_cons (ps_if (PW.pt (pw_or (pt_not (pt_val (pe_cc C__law_is hr (by decide) (by rfl) (pa_cons (pv 4) (pa_cons (pv 5) pa_nil))))) (pw_or1 (pt_not (pt_val (pe_cc C__law_is hr (by decide) (by rfl) (pa_cons (pe_op (op_own C_P_mul rfl T_P.sf hr (by decide)) (pv 1) (pv 0)) (pa_cons (pv 5) pa_nil)))))))) (pss_one (ps_ret pe_bl)) pss_nil)
 (pss_cons (ps_for PassesOwn.never rfl (k_piL (K := K) rfl (pe_lst (pa_cons (pe_tup (pa_cons (pv 0) (pa_cons (pv 2) pa_nil))) (pa_cons (pe_tup (pa_cons (pv 1) (pa_cons (pv 3) pa_nil))) (pa_cons (pe_tup (pa_cons (pv 4) (pa_cons (pv 5) pa_nil))) pa_nil))))) (k_gtup (K := K) (n := 2) rfl rfl (pgs_cons (pg_name (i := 6) sc__law_operators.nd rfl (Or.inl rfl)) (pgs_cons (pg_name (i := 7) sc__law_operators.nd rfl (Or.inl rfl)) pgs_nil))) (pss_cons (ps_set (i := 8) sc__law_operators.nd rfl (Or.inl rfl) (pe_callTy (cr_strOwn C_P_str hr (by decide)) (by rfl) z_str (by decide +kernel) (pa_cons (pv 6) pa_nil)))
 (pss_one (ps_if (PW.pt (pw_or (pt_not (pt_val (pe_callB (k_isi (K := K) rfl) (by rfl) T.z_isinstance (by decide +kernel) (pa_cons (pv 8) (pa_cons (pe_bltn (by rfl) z_str (by decide +kernel) (v := .ty "str") rfl) pa_nil))))) (pw_or1 (pt_cmpR op_ne (pv 8) (pe_cc C__law_text hr (by decide) (by rfl) (pa_cons (pv 7) pa_nil)) (nomark _))))) (pss_one (ps_ret pe_bl)) pss_nil))))
 (pss_cons (ps_if (PW.pt (pw_or (pt_not (pt_val (pe_cc C__law_equal hr (by decide) (by rfl) (pa_cons (pv 0) (pa_cons (pv 1) (pa_cons (pe_cmpR (k_eqD (K := K) rfl hr.units) (pv 2) (pv 3) (nomark _)) pa_nil)))))) (pw_or (pt_not (pt_val (pe_cc C__law_equal hr (by decide) (by rfl) (pa_cons (pv 1) (pa_cons (pv 0) (pa_cons (pe_cmpR (k_eqD (K := K) rfl hr.units) (pv 2) (pv 3) (nomark _)) pa_nil)))))) (pw_or1 (pt_not (pt_val (pe_cc C__law_equal hr (by decide) (by rfl) (pa_cons (pv 4) (pa_cons (pe_op (op_own C_P_mul rfl T_P.sf hr (by decide)) (pv 0) (pv 1)) (pa_cons pe_bl pa_nil)))))))))) (pss_one (ps_ret pe_bl)) pss_nil)
 (pss_cons (ps_for PassesOwn.never rfl (k_piL (K := K) rfl (pe_lst (pa_cons (pv 2) (pa_cons (pe_callTy (k_list (K := K) rfl) (by rfl) T.z_list (by decide +kernel) (pa_cons (pv 2) pa_nil)) (pa_cons (pe_cc C__law_text hr (by decide) (by rfl) (pa_cons (pv 2) pa_nil)) (pa_cons pe_non (pa_cons pe_int (pa_cons (pe_cmpR (k_eqD (K := K) rfl hr.units) (pv 2) (pe_tup pa_nil) (nomark _)) pa_nil)))))))) (pg_name (i := 9) sc__law_operators.nd rfl (Or.inl rfl)) (pss_one (ps_if (pt_not (pt_val (pe_cc C__law_equal hr (by decide) (by rfl) (pa_cons (pv 0) (pa_cons (pv 9) (pa_cons pe_bl pa_nil)))))) (pss_one (ps_ret pe_bl)) pss_nil)))
 (pss_one (ps_ret pe_bl)))))))))), ?_⟩
  refine w_start (σ := [some _, some _, some _, some _, none, none, none, none, none, none]) rfl ?_
  walk_at "go"
  refine rown2 hp hq ?_
  refine ⟨p, q, ts, us, rfl, hp, hq, ft.nf, by omega, fun r1 H1 rs1 nf1 cf1 c1 hr1 => ?_⟩
  walk_at "go"
  refine ⟨a, b, 1, ts, us, rfl, ha.ch c1, hb.ch c1, by decide, by omega, fun t1 H2 ss1 ng1 cg1 c2 ht1 => ?_⟩
  obtain rfl := nf1.eq ng1 fun e => by rw [cf1, cg1]
  walk_at "go"
  refine ⟨r1, t1, rs1, rfl, hr1.ch c2, ht1, by have := nf1.len_le (b := ts ++ us) (fun e => by rw [cf1, cf_append, Int.one_mul]); rw [List.length_append] at this; omega, fun H3 c3 => ?_⟩
  have c3 := c1.trans (c2.trans c3)
  refine ⟨_, rfl, ?_⟩
  walk_at "go"
  refine rown2 (hp.ch c3) (hq.ch c3) ?_
  refine ⟨_, _, _, _, rfl, hp.ch c3, hq.ch c3, ft.nf, by omega, fun r1 H1 rs1 nf1 cf1 c1 hr1 => ?_⟩
  have c1 := c3.trans c1
  walk_at "go"
  refine ⟨_, _, -1, _, _, rfl, ha.ch c1, hb.ch c1, by decide, by omega, fun t1 H2 ss1 ng1 cg1 c2 ht1 => ?_⟩
  obtain rfl := nf1.eq ng1 fun e => by rw [cf1, cg1]
  walk_at "go"
  refine ⟨r1, t1, rs1, rfl, hr1.ch c2, ht1, by have := nf1.len_le (b := ts ++ us.map (Tm.scale (-1))) (fun e => by rw [cf1, cf_append, cf_scale]); rw [List.length_append, List.length_map] at this; omega, fun H4 c4 => ?_⟩
  have c3 := c1.trans (c2.trans c4)
  clear c1 c2 c4
  refine ⟨_, rfl, ?_⟩
  walk_at "go"
  refine rown2 (hq.ch c3) (hp.ch c3) ?_
  refine ⟨_, _, _, _, rfl, hq.ch c3, hp.ch c3, fu.nf, by omega, fun r1 H1 rs1 nf1 cf1 c1 hr1 => ?_⟩
  have c1 := c3.trans c1
  walk_at "go"
  refine ⟨_, _, -1, _, _, rfl, hb.ch c1, ha.ch c1, by decide, by omega, fun t1 H2 ss1 ng1 cg1 c2 ht1 => ?_⟩
  obtain rfl := nf1.eq ng1 fun e => by rw [cf1, cg1]
  walk_at "go"
  refine ⟨r1, t1, rs1, rfl, hr1.ch c2, ht1, by have := nf1.len_le (b := us ++ ts.map (Tm.scale (-1))) (fun e => by rw [cf1, cf_append, cf_scale]); rw [List.length_append, List.length_map] at this; omega, fun H4 c4 => ?_⟩
  have c3 := c1.trans (c2.trans c4)
  clear c1 c2 c4
  refine ⟨_, rfl, ?_⟩
  walk_at "go"
  refine rown1 (hp.ch c3) ?_
  refine ⟨p, ts, rfl, hp.ch c3, ft.nf, by omega, fun r1 H1 c1 hr1 => ?_⟩
  have c1 := c3.trans c1
  walk_at "go"
  refine w_newT (show 0 ≤ sizeLine by decide) fun e0 H2 n2 c2 h2 => ?_
  walk_at "go"
  refine ⟨e0, a, -1, [], ts, rfl, ⟨[], .of h2, Els.nil⟩, ha.ch (c1.trans c2), by decide, by simp only [List.length_nil]; omega, fun t1 H3 ss1 ng1 cg1 c3 ht1 => ?_⟩
  obtain rfl := (ft.nf.scale (show (-1 : Int) ≠ 0 by decide)).eq ng1 fun e => by rw [cf_scale, cg1, cf_nil, Int.zero_add]
  walk_at "go"
  refine ⟨r1, t1, _, rfl, hr1.ch (c2.trans c3), ht1, by rw [List.length_map]; omega, fun H4 c4 => ?_⟩
  have c3 := c1.trans (c2.trans (c3.trans c4))
  clear c1 c2 c4
  refine ⟨_, rfl, ?_⟩
  walk_at "go"
  refine rown2 (hp.ch c3) (hq.ch c3) ?_
  refine ⟨p, q, ts, us, 146, 146, rfl, hp.ch c3, hq.ch c3, ft.nf, fu.nf, by omega, by omega, ft.c, fu.c, by decide, fun pr H1 rs nfr cfr c1 hpr => ?_⟩
  have c1 := c3.trans c1
  walk_at "go"
  refine ⟨a, b, ts, us, rfl, ha.ch c1, hb.ch c1, by omega, ft.c.mul fu.c (by decide), fun du H2 ss ng cg c2 hdu => ?_⟩
  obtain rfl := nfr.eq ng fun e => by rw [cfr, cg]
  have fr : Fin0 302 24 rs := ft.mul fu nfr cfr (b := 9) (by omega)
  have lr : rs.length ≤ 17 * 17 := by
    have := nfr.len_le cfr
    rw [len_mul] at this
    omega
  have hpr := hpr.ch c2
  have c2 := c1.trans c2
  walk_at "go"
  refine ⟨pr, du, rs, rfl, hpr, hdu, by omega, fun H3 c3 => ?_⟩
  have hpr := hpr.ch c3
  have hdu := hdu.ch c3
  have c3 := c2.trans c3
  clear c1 c2
  refine ⟨_, rfl, ?_⟩
  walk_at "go"
  refine rown2 (hq.ch c3) (hp.ch c3) ?_
  refine ⟨q, p, us, ts, 146, 146, rfl, hq.ch c3, hp.ch c3, fu.nf, ft.nf, by omega, by omega, fu.c, ft.c, by decide, fun qp H4 ss ng cg c4 hqp => ?_⟩
  obtain rfl := nfr.eq ng fun e => by rw [cfr, cg, cf_perm (mulT_perm ts us)]
  have hpr := hpr.ch c4
  have hdu := hdu.ch c4
  have c4 := c3.trans c4
  walk_at "go"
  refine ⟨qp, du, rs, rfl, hqp, hdu, by omega, fun H5 c5 => ?_⟩
  have hpr := hpr.ch c5
  have hdu := hdu.ch c5
  have c5 := c4.trans c5
  clear c4 hqp
  refine ⟨_, rfl, ?_⟩
  walk_at "go"
  refine w_newT (show 2 ≤ sizeLine by decide) fun e1 H6 n6 c6 h6 => ?_
  walk_at "go"
  refine w_newT (show 2 ≤ sizeLine by decide) fun e2 H7 n7 c7 h7 => ?_
  walk_at "go"
  refine w_newT (show 2 ≤ sizeLine by decide) fun e3 H8 n8 c8 h8 => ?_
  walk_at "go"
  refine w_newL (show 3 ≤ sizeLine by decide) fun el H9 n9 c9 h9 => ?_
  have c69 := c6.trans (c7.trans (c8.trans c9))
  have hpr := hpr.ch c69
  have hdu := hdu.ch c69
  have c9' := c5.trans c69
  have hp9 := hp.ch c9'
  have hq9 := hq.ch c9'
  have ha9 := ha.ch c9'
  have hb9 := hb.ch c9'
  have g1 : SqT K H9 e1 [.ref p, .ref a] := (c7.trans (c8.trans c9)).sqT (.of h6)
  have g2 : SqT K H9 e2 [.ref q, .ref b] := (c8.trans c9).sqT (.of h7)
  have g3 : SqT K H9 e3 [.ref pr, .ref du] := c9.sqT (.of h8)
  refine w_iLr (.of h9) ?_
  refine for_w (walk_list (K := K) (a := el) (xs := [.ref e1, .ref e2, .ref e3])) (fun i σ H' => Ch [] H9 H' ∧ ∃ z1 z2 z3 z4, σ = [some (.ref p), some (.ref q), some (.ref a), some (.ref b), some (.ref pr), some (.ref du), z1, z2, z3, z4])
    ⟨.refl, _, _, _, _, rfl⟩ (fun i σ H' _ h => .of (h.1.at0 h9)) ?_ ?_
  · rintro k x σ HH H3 hk ⟨c, z1, z2, z3, z4, rfl⟩ ⟨rfl, hy⟩
    have hk : k < 3 := hk
    have hb : ∃ e p0 a0 ls, x = .ref e ∧ SqT K H3 e [.ref p0, .ref a0] ∧ Po K A_Poly H3 p0 ls ∧ TmT K H3 a0 ls ∧ (∀ t ∈ ls, SmT t) ∧ ls.length ≤ 10000 := by
      obtain rfl | rfl | rfl : k = 0 ∨ k = 1 ∨ k = 2 := by omega
      · cases hy; exact ⟨_, _, _, _, rfl, c.sqT g1, hp9.ch c, ha9.ch c, ft.sm (by decide) (by decide), by omega⟩
      · cases hy; exact ⟨_, _, _, _, rfl, c.sqT g2, hq9.ch c, hb9.ch c, fu.sm (by decide) (by decide), by omega⟩
      · cases hy; exact ⟨_, _, _, _, rfl, c.sqT g3, hpr.ch c, hdu.ch c, fr.sm (by decide) (by decide), by omega⟩
    obtain ⟨e, p0, a0, ls, rfl, he, hp0, ha0, sm, l0⟩ := hb
    walk_at "go"
    refine rstrOwn hp0 ?_
    refine ⟨p0, ls, rfl, hp0, sm, l0, fun H4 c4 => ⟨_, rfl, ?_⟩⟩
    walk_at "go"
    refine w_isiSS ?_
    walk_at "go"
    refine ⟨a0, ls, rfl, ha0.ch c4, sm, l0, fun H5 c5 => ?_⟩
    walk_at "go"
    refine ite_ndf rfl ?_
    walk_at "go"
    exact ⟨c.trans (c4.trans c5), _, _, _, _, rfl⟩
  rintro σ H10 ⟨c10, z1, z2, z3, z4, rfl⟩
  have hpr := hpr.ch c10
  have hdu := hdu.ch c10
  have c10 := c9'.trans c10
  have hp1 := hp.ch c10
  have hq1 := hq.ch c10
  have ha1 := ha.ch c10
  have hb1 := hb.ch c10
  have at1 := c10.tup hat
  walk_at "go"
  refine w_eqTm ha1 hb1 ?_
  walk_at "go"
  refine ⟨p, .ref q, _, ts, rfl, hp1, .inl ⟨q, us, rfl, hq1, rfl⟩, ?_⟩
  refine ⟨_, rfl, ?_⟩
  walk_at "go"
  refine w_eqTm ha1 hb1 ?_
  walk_at "go"
  refine ⟨q, .ref p, _, us, rfl, hq1, .inl ⟨p, ts, rfl, hp1, by rw [decide_eq_decide]; exact eq_comm⟩, ?_⟩
  refine ⟨_, rfl, ?_⟩
  walk_at "go"
  refine rown2 hp1 hq1 ?_
  refine ⟨p, q, ts, us, 146, 146, rfl, hp1, hq1, ft.nf, fu.nf, by omega, by omega, ft.c, fu.c, by decide, fun pq H11 ss ng cg c11 hpq => ?_⟩
  obtain rfl := nfr.eq ng fun e => by rw [cfr, cg]
  walk_at "go"
  refine ⟨pr, .ref pq, _, rs, rfl, hpr.ch c11, .inl ⟨pq, rs, rfl, hpq, by simp⟩, ?_⟩
  refine ⟨_, rfl, ?_⟩
  have hp1 := hp1.ch c11
  have ha1 := ha1.ch c11
  have at1 := c11.tup at1
  have c11 := c10.trans c11
  clear c10 hq1 hb1
  obtain ⟨xs, hx, hm⟩ := id ha1
  walk_at "go"
  refine w_listT hx fun l H12 n12 c12 h12 => ?_
  walk_at "go"
  refine ⟨a, ts, rfl, ha1.ch c12, ft.sm (by decide) (by decide), by omega, fun H13 c13 => ?_⟩
  walk_at "go"
  refine w_newT (show 0 ≤ sizeLine by decide) fun e0 H14 n14 c14 h14 => ?_
  have c1 := c12.trans (c13.trans c14)
  refine w_eqTm (ha1.ch c1) ⟨[], .of h14, Els.nil⟩ ?_
  walk_at "go"
  refine w_newL (show 6 ≤ sizeLine by decide) fun el2 H15 n15 c15 h15 => ?_
  have c2 := c1.trans c15
  have hp2 := hp1.ch c2
  have at2 := c2.tup at1
  have l2 := (c13.trans (c14.trans c15)).at0 h12
  refine w_iLr (.of h15) ?_
  refine for_w (walk_list (K := K) (a := el2) (xs := [.ref a, .ref l, .str (S (txL ts)), .non, .int 0, .bl (decide (ts = []))])) (fun i σ H' => Ch [] H15 H' ∧ ∃ z1 z2 z3 z4, σ = [some (.ref p), some (.ref q), some (.ref a), some (.ref b), some (.ref pr), some (.ref du), z1, z2, z3, z4])
    ⟨.refl, _, _, _, _, rfl⟩ (fun i σ H' _ h => .of (h.1.at0 h15)) ?_ ?_
  · rintro k x σ HH H3 hk ⟨c, z1, z2, z3, z4, rfl⟩ ⟨rfl, hy⟩
    have hk : k < 6 := hk
    have hb : ∃ ty, ty ∈ (["tuple", "list", "str", "NoneType", "int", "bool"] : List String) ∧ TyOf K H3 x (.type ty) := by
      obtain rfl | rfl | rfl | rfl | rfl | rfl : k = 0 ∨ k = 1 ∨ k = 2 ∨ k = 3 ∨ k = 4 ∨ k = 5 := by omega
      · cases hy; exact ⟨"tuple", by decide, .tup (c.tup at2)⟩
      · cases hy; exact ⟨"list", by decide, .lst (c.at0 l2)⟩
      · cases hy; exact ⟨"str", by decide, .str _⟩
      · cases hy; exact ⟨"NoneType", by decide, .non⟩
      · cases hy; exact ⟨"int", by decide, .int _⟩
      · cases hy; exact ⟨"bool", by decide, .bl _⟩
    obtain ⟨ty, mt, et⟩ := hb
    walk_at "go"
    refine ⟨p, x, false, ts, rfl, hp2.ch c, .inr ⟨ty, mt, et, rfl⟩, ?_⟩
    refine ⟨_, rfl, ?_⟩
    walk_at "go"
    exact ⟨c, _, _, _, _, rfl⟩
  rintro σ H16 ⟨c16, z1, z2, z3, z4, rfl⟩
  walk_at "go"
  exact qq H16 (c11.trans (c2.trans c16))
end
end My
namespace My
open PySem PySem.Spec PyProof.Rows L2
theorem Low.uniq {t b n d n' d' : Int} (h : Low t b n d) (h' : Low t b n' d') (hb : b ≠ 0) : n = n' ∧ d = d' := by
  have e : n * d' = n' * d := by
    apply Int.eq_of_mul_eq_mul_right hb
    calc n * d' * b = n * b * d' := by rw [Int.mul_assoc, Int.mul_comm d', ← Int.mul_assoc]
      _ = d * t * d' := by rw [h.eq]
      _ = d' * t * d := by rw [Int.mul_assoc, Int.mul_comm, Int.mul_comm t]
      _ = n' * b * d := by rw [h'.eq]
      _ = n' * d * b := by rw [Int.mul_assoc, Int.mul_comm b, ← Int.mul_assoc]
  have en : n.natAbs * d'.natAbs = n'.natAbs * d.natAbs := by rw [← Int.natAbs_mul, ← Int.natAbs_mul, e]
  have d1 : d.natAbs ∣ d'.natAbs := by
    have : d.natAbs ∣ n.natAbs * d'.natAbs := by rw [en]; exact Nat.dvd_mul_left _ _
    exact (Nat.Coprime.symm (show Nat.Coprime n.natAbs d.natAbs from h.cop)).dvd_of_dvd_mul_left this
  have d2 : d'.natAbs ∣ d.natAbs := by
    have : d'.natAbs ∣ n'.natAbs * d.natAbs := by rw [← en]; exact Nat.dvd_mul_left _ _
    exact (Nat.Coprime.symm (show Nat.Coprime n'.natAbs d'.natAbs from h'.cop)).dvd_of_dvd_mul_left this
  have ed : d = d' := by
    have := Nat.dvd_antisymm d1 d2
    have := h.pos
    have := h'.pos
    omega
  subst ed
  refine ⟨?_, rfl⟩
  exact Int.eq_of_mul_eq_mul_right (show d ≠ 0 by have := h.pos; omega) e
theorem deg0_eq {n : Nat} {ts : List Tm} {m : Int} (h : m ∈ [0] ++ ts.map (exN n)) (h2 : ∀ y, y ∈ [0] ++ ts.map (exN n) → y ≤ m) : m = (mdeg n ts : Nat) := by
  have a := h2 0 (by simp)
  have b : ∀ t ∈ ts, exN n t ≤ m := fun t ht => h2 _ (List.mem_append_right _ (List.mem_map.mpr ⟨t, ht, rfl⟩))
  have c : degI n ts ≤ m := by
    rcases degI_mem n ts with e | ⟨t, ht, e⟩
    · omega
    · rw [e]
      exact b t ht
  have dg := degI_ge n ts
  unfold mdeg
  rcases List.mem_append.mp h with h | h
  · have := List.mem_singleton.mp h
    omega
  · obtain ⟨t, ht, rfl⟩ := List.mem_map.mp h
    have := degI_le (n := n) ht
    omega
def botF (f : Nat → Int × Int) (ts : List Tm) : Nat → Int
  | 0 => 1
  | i + 1 => botF f ts i * (f i).2 ^ mdeg i ts
def prtF (f : Nat → Int × Int) (ts : List Tm) (t : Tm) : Nat → Int
  | 0 => t.c
  | i + 1 => prtF f ts t i * (f i).1 ^ (exN i t).toNat * (f i).2 ^ (mdeg i ts - (exN i t).toNat)
theorem prt3 (f : Nat → Int × Int) (ts : List Tm) (t : Tm) : prtF f ts t 3 = termV f ts t := by
  show t.c * (f 0).1 ^ t.i.toNat * (f 0).2 ^ (mdeg 0 ts - t.i.toNat) * (f 1).1 ^ t.j.toNat * (f 1).2 ^ (mdeg 1 ts - t.j.toNat) * (f 2).1 ^ t.k.toNat * (f 2).2 ^ (mdeg 2 ts - t.k.toNat) = _
  unfold termV ladV
  simp only [Int.mul_assoc]
theorem bot3 (f : Nat → Int × Int) (ts : List Tm) : botF f ts 3 = (f 0).2 ^ mdeg 0 ts * (f 1).2 ^ mdeg 1 ts * (f 2).2 ^ mdeg 2 ts := by
  show 1 * _ * _ * _ = _
  rw [Int.one_mul]
theorem exN_le {k : Nat} {t : Tm} {n : Nat} (h : t.i ≤ k ∧ t.j ≤ k ∧ t.k ≤ k) : exN n t ≤ k := by
  unfold exN
  split
  · exact h.1
  · split
    · exact h.2.1
    · exact h.2.2
theorem degI_le12 {n k : Nat} {ts : List Tm} (h : ∀ t ∈ ts, t.i ≤ k ∧ t.j ≤ k ∧ t.k ≤ k) : degI n ts ≤ k := by
  rcases degI_mem n ts with e | ⟨t, ht, e⟩
  · omega
  · rw [e]
    exact exN_le (h t ht)
theorem exN_ge {t : Tm} {n : Nat} (h : 0 ≤ t.i ∧ 0 ≤ t.j ∧ 0 ≤ t.k) : 0 ≤ exN n t := by
  unfold exN
  split
  · exact h.1
  · split
    · exact h.2.1
    · exact h.2.2
theorem Pt3.at_ {K : PySem.W.Frag} {H : Hp} {a : Addr} {f : Nat → Int × Int} (h : Pt3 K H a f) : ∃ xs, SqT K H a xs ∧ xs.length = 3 ∧ ∀ n, n < 3 → ∃ b, xs[n]? = some (.ref b) ∧ SqT K H b (ivs [(f n).1, (f n).2]) := by
  obtain ⟨b0, b1, b2, h, f0, f1, f2⟩ := h
  refine ⟨_, h, rfl, fun n hn => ?_⟩
  obtain rfl | rfl | rfl : n = 0 ∨ n = 1 ∨ n = 2 := by omega
  · exact ⟨b0, rfl, f0⟩
  · exact ⟨b1, rfl, f1⟩
  · exact ⟨b2, rfl, f2⟩
section
variable {P : Program} {w : World} {K : PySem.W.Frag} {mg : Str → Option Value} {base : Heap}
abbrev s__law_value : Stmt := topS 49
theorem sc__law_value : FnScope ["terms", "point", "most", "bottom", "k", "top", "term", "part", "common", "one"] ["terms", "point"] (defScope s__law_value) := ⟨rfl, rfl, rfl, by decide +kernel, rfl, by decide +kernel, by decide +kernel⟩
def sp__law_value (K : PySem.W.Frag) : Sp := fun vs H Q _ => ∃ (a pt : Addr) (ts : List Tm) (f : Nat → Int × Int), vs = [.ref a, .ref pt] ∧ TmT K H a ts ∧ Pt3 K H pt f ∧ Fin0 146 12 ts ∧ ts.length ≤ 300 ∧ (∀ n, n < 3 → (f n).1.natAbs < 2 ^ 58 ∧ (f n).2.natAbs < 2 ^ 58 ∧ 0 < (f n).2) ∧
  ∀ v x y H', Low (sumF (termV f ts) ts) ((f 0).2 ^ mdeg 0 ts * (f 1).2 ^ mdeg 1 ts * (f 2).2 ^ mdeg 2 ts) x y → Ch [] H H' → Fr K H' v x y → Q (.ref v) H'
theorem c__law_value (T : Txt mg) (C__law_power : Cal P w K mg base 1 "_law_power" sp__law_power) (C__law_gcd : Cal P w K mg base 1 "_law_gcd" sp__law_gcd)
    {f : Addr} {fd : FuncData} (F : DefF K mg "_law_value" s__law_value ["terms", "point"] f fd) : Cal P w K mg base 2 "_law_value" (sp__law_value K) := by
  refine cal_of F sc__law_value (fun vs H Q E h => by obtain ⟨_, _, _, _, rfl, _⟩ := h; rfl) (fun cdv A outer s H vs Q E hr h => ?_)
  obtain ⟨a, pt, ts, f, rfl, ⟨xs, hx, hm⟩, hpt, fin, lt, hb, q⟩ := h
  obtain ⟨ps, hps, lps, hpn⟩ := hpt.at_
  have md : ∀ n, mdeg n ts ≤ 12 := fun n => by
    have := degI_le12 (n := n) fin.i
    unfold mdeg
    omega
  have pw : ∀ (n e : Nat), n < 3 → e ≤ 12 → ((f n).1 ^ e).natAbs < 2 ^ 697 ∧ ((f n).2 ^ e).natAbs < 2 ^ 697 := fun n e hn he => by
    have b1 := abs_pow_lt (s := e) (hb n hn).1
    have b2 := abs_pow_lt (s := e) (hb n hn).2.1
    exact ⟨abs_mono b1 (by omega), abs_mono b2 (by omega)⟩
  refine ⟨_, (pss_cons (ps_set (i := 2) sc__law_value.nd rfl (Or.inl rfl) (pe_lst pa_nil))
 (pss_cons (ps_set (i := 3) sc__law_value.nd rfl (Or.inl rfl) pe_int)
 (pss_cons (ps_for PassesOwn.never rfl (pi_range1 (by rfl) T.z_range (pa_cons pe_int pa_nil)) (pg_name (i := 4) sc__law_value.nd rfl (Or.inr rfl)) (pss_cons (ps_expr (pe_bm PySem.F.plainAttrs_list PySem.F.slot_list_append PySem.F.type_list_append mt_append (pv 2) (pa_cons (pe_callB (k_max (K := K) rfl rfl) (by rfl) T.z_max (by decide +kernel) (pa_cons (pe_op op_cat (pe_lst (pa_cons pe_int pa_nil)) (pe_lc (own := [("one", 9)]) (g := gName 9) rfl sc__law_value.nd (k_piT (K := K) rfl (pv 0)) (blkOk_by (own := [("one", 9)]) (N := ["terms", "point", "most", "bottom", "k", "top", "term", "part", "common", "one"]) (sc := defScope s__law_value) (by decide +kernel)) (fun _ _ _ _ _ => pg_name (i := 9) sc__law_value.nd rfl (Or.inl rfl)) (fun _ _ _ _ _ => pts_nil) (fun _ _ _ _ _ => (pe_ix (k_ixT (K := K) rfl) (pv 9) (pe_op op_add (pv 4) pe_int) (fun _ _ => rfl))))) pa_nil)) pa_nil)))
 (pss_one (ps_set (i := 3) sc__law_value.nd rfl (Or.inl rfl) (pe_op op_mulG (pv 3) (pe_cc C__law_power hr (by decide) (by rfl) (pa_cons (pe_ix (k_ixT (K := K) rfl) (pe_ix (k_ixT (K := K) rfl) (pv 1) (pv 4) (fun _ _ => rfl)) pe_int (fun _ _ => rfl)) (pa_cons (pe_ix (k_ixL (K := K) rfl) (pv 2) (pv 4) (fun _ _ => rfl)) pa_nil))))))))
 (pss_cons (ps_set (i := 5) sc__law_value.nd rfl (Or.inl rfl) pe_int)
 (pss_cons (ps_for PassesOwn.never rfl (k_piT (K := K) rfl (pv 0)) (pg_name (i := 6) sc__law_value.nd rfl (Or.inl rfl)) (pss_cons (ps_set (i := 7) sc__law_value.nd rfl (Or.inl rfl) (pe_ix (k_ixT (K := K) rfl) (pv 6) pe_int (fun _ _ => rfl)))
 (pss_cons (ps_for PassesOwn.never rfl (pi_range1 (by rfl) T.z_range (pa_cons pe_int pa_nil)) (pg_name (i := 4) sc__law_value.nd rfl (Or.inr rfl)) (pss_cons (ps_set (i := 7) sc__law_value.nd rfl (Or.inl rfl) (pe_op op_mulG (pv 7) (pe_cc C__law_power hr (by decide) (by rfl) (pa_cons (pe_ix (k_ixT (K := K) rfl) (pe_ix (k_ixT (K := K) rfl) (pv 1) (pv 4) (fun _ _ => rfl)) pe_int (fun _ _ => rfl)) (pa_cons (pe_ix (k_ixT (K := K) rfl) (pv 6) (pe_op op_add (pv 4) pe_int) (fun _ _ => rfl)) pa_nil)))))
 (pss_one (ps_set (i := 7) sc__law_value.nd rfl (Or.inl rfl) (pe_op op_mulG (pv 7) (pe_cc C__law_power hr (by decide) (by rfl) (pa_cons (pe_ix (k_ixT (K := K) rfl) (pe_ix (k_ixT (K := K) rfl) (pv 1) (pv 4) (fun _ _ => rfl)) pe_int (fun _ _ => rfl)) (pa_cons (pe_op op_sub (pe_ix (k_ixL (K := K) rfl) (pv 2) (pv 4) (fun _ _ => rfl)) (pe_ix (k_ixT (K := K) rfl) (pv 6) (pe_op op_add (pv 4) pe_int) (fun _ _ => rfl))) pa_nil))))))))
 (pss_one (ps_set (i := 5) sc__law_value.nd rfl (Or.inl rfl) (pe_op op_add (pv 5) (pv 7)))))))
 (pss_cons (ps_set (i := 8) sc__law_value.nd rfl (Or.inl rfl) (pe_cc C__law_gcd hr (by decide) (by rfl) (pa_cons (pv 5) (pa_cons (pv 3) pa_nil))))
 (pss_one (ps_ret (pe_tup (pa_cons (pe_op op_fdivG (pv 5) (pv 8)) (pa_cons (pe_op op_fdivG (pv 3) (pv 8)) pa_nil))))))))))), ?_⟩
  refine w_start (σ := [some _, some _, none, none, none, none, none, none, none, none]) rfl ?_
  walk_at "go"
  refine w_newL (show 0 ≤ sizeLine by decide) fun l H1 n1 c1 h1 => ?_
  walk_at "go"
  refine w_iR1r (by decide) (by decide) ?_
  refine for_R (n := 3) (fun i σ H' => Ch [] H H' ∧ H' l = some (.lst (ivs ((List.range i).map fun n => (mdeg n ts : Int)))) ∧ (botF f ts i).natAbs < 2 ^ (697 * i + 1) ∧ ∃ z1 z2 z3 z4 z5 z6, σ = [some (.ref a), some (.ref pt), some (.ref l), some (.int (botF f ts i)), z1, z2, z3, z4, z5, z6])
    ⟨c1, h1, show (1 : Int).natAbs < 2 ^ (0 + 1) by decide, _, _, _, _, _, _, rfl⟩ ?_ ?_
  · rintro i σ H2 hi ⟨c, hl, bd, z1, z2, z3, z4, z5, z6, rfl⟩
    obtain ⟨pb, e1, hpb⟩ := hpn i hi
    walk_at "go"
    refine ⟨.inl ⟨rfl, _, .of hl⟩, ?_⟩
    walk_at "go"
    refine w_newL (show 1 ≤ sizeLine by decide) fun l1 Hx2 n2 c2 h2 => ?_
    walk_at "go"
    have c12 := Ch.trans c c2
    refine lc_e ts (walk_tup (K := K) (a := a) (xs := xs)) hm.len.symm (fun _ => true) (fun t v H => v = .int ((exN i) t)) (fun _ _ _ _ _ _ h => h) (fun H' c => (c12.trans c).sqT hx) (by rw [hm.len]; omega) ?st ?_
    case st =>
      rintro k1 t x H5 H6 ht c5 ⟨rfl, hx⟩ Nx A1 hN hA
      obtain ⟨v, e1, b1, rfl, hb1⟩ := hm.at_ k1 t ht
      rw [hx] at e1
      cases e1
      have hb1 := (c12.trans c5).sqT hb1
      walk_at "go"
      refine ⟨rfl, ?_⟩
      walk_at "go"
      refine w_ixT hb1 (by rw [Int.zero_add, exAt hi t]) ?_
      exact hA _ H6 .refl rfl rfl
    intro Dm Hm3 out nDm cm3 hDm elm
    rw [filter_yes] at elm
    have eo : out = ivs (ts.map (exN i)) := by
      rw [ivs, List.map_map]
      have := els_map (f := fun v => v) (g := fun t => V.int ((exN i) t)) elm (fun _ _ _ h => h)
      rw [List.map_id'] at this
      exact this
    subst eo
    have big8 : (800001 : Nat) ≤ sizeLine := by decide
    refine w_cat (cm3.at0 h2) hDm (by rw [List.length_map, List.length_map]; simp only [List.length_cons, List.length_nil]; omega) fun mL Hm4 nm4 cm4 hm4 => ?_
    walk_at "go"
    have hm4 : Hm4 mL = some (.lst (ivs ([0] ++ ts.map (exN i)))) := by
      rw [hm4]
      show _ = some (HO.lst (([0] ++ ts.map (exN i)).map V.int))
      rw [List.map_append]
      rfl
    refine w_maxL (.of hm4) (by simp) fun mx mx1 mx2 => ?_
    have cm := c12.trans (cm3.trans cm4)
    have cm2 := c2.trans (cm3.trans cm4)
    clear c2 c12 hDm cm3 cm4 hm4 h2
    obtain rfl := deg0_eq mx1 mx2
    have hl4 := cm2.at0 hl
    walk_at "go"
    refine w_append hl4 (by rw [List.length_map, List.length_map, List.length_range]; have big8 : (800001 : Nat) ≤ sizeLine := by decide
                            omega) fun H5 c5 h5 => ?_
    have h5 : H5 l = some (.lst (ivs ((List.range (i + 1)).map fun n => (mdeg n ts : Int)))) := by
      rw [h5, List.range_succ, List.map_append]
      show _ = some (HO.lst (((List.range i).map _ ++ [(mdeg i ts : Int)]).map V.int))
      rw [List.map_append]
      rfl
    have c15 := cm.cut n1 c5
    walk_at "go"
    refine w_ixT (c15.sqT hps) (atI_at (k := i) (by omega) e1) ?_
    have hpb := c15.sqT hpb
    walk_at "go"
    refine w_ixL (.of h5) (v := .int (mdeg i ts : Int)) (atI_at (k := i) (by omega) ?_) ?_
    · unfold ivs
      rw [List.map_map, List.getElem?_map, List.getElem?_range (by omega)]
      rfl
    walk_at "go"
    refine ⟨_, _, 58, rfl, (hb i hi).2.1, by decide, by omega, by have := md i; omega, ?_⟩
    have pi := (pw i (mdeg i ts) hi (md i)).2
    rw [show ((mdeg i ts : Nat) : Int).toNat = mdeg i ts from by omega]
    walk_at "go"
    refine w_I (mul_ok bd pi (by omega)) ?_
    refine ⟨c15, h5, abs_mono (mulb bd pi) (by omega), _, _, _, _, _, _, rfl⟩
  rintro σ H2 ⟨c2, hl, bd, z1, z2, z3, z4, z5, z6, rfl⟩
  have hl : H2 l = some (.lst (ivs [(mdeg 0 ts : Int), (mdeg 1 ts : Int), (mdeg 2 ts : Int)])) := hl
  have lat : ∀ n, n < 3 → (ivs [(mdeg 0 ts : Int), (mdeg 1 ts : Int), (mdeg 2 ts : Int)])[n]? = some (.int (mdeg n ts : Int)) := fun n hn => by
    obtain rfl | rfl | rfl : n = 0 ∨ n = 1 ∨ n = 2 := by omega
    all_goals rfl
  have hps := c2.sqT hps
  walk_at "go"
  refine for_eT (E := Tme K) (ls := ts) (Pv := fun i σ H' => H' = H2 ∧ ∃ z1 z2 z3 z4 z5, σ = [some (.ref a), some (.ref pt), some (.ref l), some (.int (botF f ts 3)), z1, some (.int (sumF (termV f ts) (ts.take i))), z2, z3, z4, z5]) hm.len ⟨rfl, _, _, _, _, _, rfl⟩ (fun i σ H' _ h => by obtain ⟨rfl, _⟩ := h; exact ⟨c2.sqT hx, hm.chm c2⟩) ?_ ?_
  · rintro i t x σ H' ht ⟨rfl, z1, z2, z3, z4, z5, rfl⟩ hx
    obtain ⟨b, rfl, hb1⟩ := hx
    have tm := List.mem_of_getElem? ht
    have ex : ∀ n, 0 ≤ exN n t ∧ (exN n t).toNat ≤ mdeg n ts := fun n => by
      have a := exN_ge (n := n) (fin.e t tm)
      have b := degI_le (n := n) tm
      unfold mdeg
      omega
    walk_at "go"
    refine w_iR1r (by decide) (by decide) ?_
    refine for_R (n := 3) (fun k σ H3 => H3 = H' ∧ (prtF f ts t k).natAbs < 2 ^ (146 + 1394 * k) ∧ ∃ z1 z4 z5, σ = [some (.ref a), some (.ref pt), some (.ref l), some (.int (botF f ts 3)), z1, some (.int (sumF (termV f ts) (ts.take i))), some (.ref b), some (.int (prtF f ts t k)), z4, z5]) ⟨rfl, fin.c t tm, _, _, _, rfl⟩ ?_ ?_
    · rintro k σ H3 hk ⟨rfl, bd, z1, z4, z5, rfl⟩
      obtain ⟨pb, e1, hpb⟩ := hpn k hk
      have hpb := c2.sqT hpb
      obtain ⟨e0, em⟩ := ex k
      have m12 := md k
      walk_at "go"
      refine w_ixT hps (atI_at (k := k) (by omega) e1) ?_
      walk_at "go"
      refine w_ixT hb1 (by rw [Int.zero_add, exAt hk t]) ?_
      walk_at "go"
      refine ⟨_, _, 58, rfl, (hb k hk).1, by decide, e0, by omega, ?_⟩
      have p1 := (pw k (exN k t).toNat hk (by omega)).1
      walk_at "go"
      refine w_I (mul_ok bd p1 (by omega)) ?_
      walk_at "go"
      refine w_ixT hps (atI_at (k := k) (by omega) e1) ?_
      walk_at "go"
      refine w_ixL (.of hl) (atI_at (k := k) (by omega) (lat k hk)) ?_
      walk_at "go"
      refine w_ixT hb1 (by rw [Int.zero_add, exAt hk t]) ?_
      walk_at "go"
      refine ⟨_, _, 58, rfl, (hb k hk).2.1, by decide, by omega, by omega, ?_⟩
      rw [show ((mdeg k ts : Nat) - exN k t : Int).toNat = mdeg k ts - (exN k t).toNat from by omega]
      have p2 := (pw k (mdeg k ts - (exN k t).toNat) hk (by omega)).2
      walk_at "go"
      refine w_I (mul_ok (mulb bd p1) p2 (by omega)) ?_
      exact ⟨rfl, abs_mono (mulb (mulb bd p1) p2) (by omega), _, _, _, rfl⟩
    · rintro σ H3 ⟨rfl, bd, z1, z4, z5, rfl⟩
      walk_at "go"
      rw [take_snoc ht, sumF_snoc, prt3]
      exact ⟨rfl, _, _, _, _, _, rfl⟩
  rintro σ H' ⟨rfl, z1, z2, z3, z4, z5, rfl⟩
  rw [List.take_length]
  walk_at "go"
  refine ⟨_, _, _, rfl, bd, by decide, ?_⟩
  have bp : 0 < botF f ts 3 := by
    rw [bot3]
    exact Int.mul_pos (Int.mul_pos (Int.pow_pos (hb 0 (by decide)).2.2) (Int.pow_pos (hb 1 (by decide)).2.2)) (Int.pow_pos (hb 2 (by decide)).2.2)
  obtain ⟨g0, gb⟩ := gcd_bd (n := sumF (termV f ts) ts) bp bd
  walk_at "go"
  refine w_I (div_ok (by omega) gb (by decide)) ?_
  walk_at "go"
  refine w_I (div_ok (by omega) gb (by decide)) ?_
  walk_at "go"
  refine w_newT (show 2 ≤ sizeLine by decide) fun v H4 n4 c4 h4 => ?_
  have lo := low_of (t := sumF (termV f ts) ts) (b := botF f ts 3) (s := 1) (.inl rfl) (by rw [Int.one_mul]; exact bp) rfl
  rw [Int.one_mul, Int.one_mul] at lo
  rw [bot3] at lo h4
  exact q v _ _ H4 lo (c2.trans c4) (.of h4)
end
end My
namespace My
open PySem PySem.Spec PyProof.Rows L2
/-- a tuple of terms as a value -/
def TmE (K : PySem.W.Frag) (us : List Tm) (v : V) (H : Hp) : Prop := ∃ t, v = .ref t ∧ TmT K H t us
theorem TmE.ch {K : PySem.W.Frag} {us : List Tm} {v : V} {H H' : Hp} {L : List Addr} (h : TmE K us v H) (c : Ch L H H') : TmE K us v H' := let ⟨t, e, q⟩ := h; ⟨t, e, q.ch c⟩
theorem lex_head {a b : Int} {as bs : List Int} (h : SrtT.lexF (a :: as) (b :: bs) = true) : a ≤ b := by
  rw [SrtT.lexF_cons] at h
  split at h
  · omega
  · have := of_decide_eq_true h
    omega
theorem degT_max {ts : List Tm} (h : Nf ts) {m : Int} (h1 : m ∈ [-1] ++ ts.map (fun t => t.i + t.j + t.k)) (h2 : ∀ y, y ∈ [-1] ++ ts.map (fun t => t.i + t.j + t.k) → y ≤ m) (ex : ExpOk ts) : m = degT ts := by
  cases ts with
  | nil =>
    have : m = -1 := by simpa using h1
    exact this
  | cons t ts =>
    show m = t.i + t.j + t.k
    have a := h2 (t.i + t.j + t.k) (by simp)
    have b := ex t List.mem_cons_self
    rcases List.mem_append.mp h1 with h1 | h1
    · have := List.mem_singleton.mp h1
      omega
    · obtain ⟨u, hu, rfl⟩ := List.mem_map.mp h1
      rcases List.mem_cons.mp hu with rfl | hu
      · rfl
      · have := lex_head (h.head u hu)
        simp only [Tm.e] at this
        omega
theorem deg_pos {n : Nat} {ts : List Tm} : 0 < (mdeg n ts : Int) ↔ 0 < degI n ts := by
  unfold mdeg
  omega
section
variable {P : Program} {w : World} {K : PySem.W.Frag} {mg : Str → Option Value} {base : Heap}
abbrev s__law_coefficients : Stmt := topS 51
theorem sc__law_coefficients : FnScope ["terms", "at", "degree", "rows", "power", "one"] ["terms", "at"] (defScope s__law_coefficients) := ⟨rfl, rfl, rfl, by decide +kernel, rfl, by decide +kernel, by decide +kernel⟩
def sp__law_coefficients (K : PySem.W.Frag) : Sp := fun vs H Q _ => ∃ (a : Addr) (n : Nat) (at_ : Int) (ts : List Tm), vs = [.ref a, .int at_] ∧ at_ = (n : Int) + 1 ∧ n < 3 ∧ TmT K H a ts ∧ Nf ts ∧ ts.length ≤ 300 ∧ degI n ts ≤ 90000 ∧
  ∀ l out H', H l = none → Ch [] H H' → H' l = some (.lst out) → Els (TmE K) H' out (coefs n ts) → Q (.ref l) H'
theorem c__law_coefficients (T : Txt mg) (C__law_gather : Cal P w K mg base 1 "_law_gather" (sp__law_gather K)) (C__law_moved : Cal P w K mg base 1 "_law_moved" (sp__law_moved K)) {f : Addr} {fd : FuncData} (F : DefF K mg "_law_coefficients" s__law_coefficients ["terms", "at"] f fd) : Cal P w K mg base 2 "_law_coefficients" (sp__law_coefficients K) := by
  refine cal_of F sc__law_coefficients (fun vs H Q E h => by obtain ⟨_, _, _, _, rfl, _⟩ := h; rfl) (fun cdv A outer s H vs Q E hr h => ?_)
  obtain ⟨a, n, at_, ts, rfl, rfl, hn, ⟨xs, hx, hm⟩, nf, lt, dl, q⟩ := h
  refine ⟨_, (pss_cons (ps_set (i := 2) sc__law_coefficients.nd rfl (Or.inl rfl) (pe_callB (k_max (K := K) rfl rfl) (by rfl) T.z_max (by decide +kernel) (pa_cons (pe_op op_cat (pe_lst (pa_cons (pe_un un_neg pe_int) pa_nil)) (pe_lc (own := [("one", 5)]) (g := gName 5) rfl sc__law_coefficients.nd (k_piT (K := K) rfl (pv 0)) (blkOk_by (own := [("one", 5)]) (N := ["terms", "at", "degree", "rows", "power", "one"]) (sc := defScope s__law_coefficients) (by decide +kernel)) (fun _ _ _ _ _ => pg_name (i := 5) sc__law_coefficients.nd rfl (Or.inl rfl)) (fun _ _ _ _ _ => pts_nil) (fun _ _ _ _ _ => (pe_ix (k_ixT (K := K) rfl) (pv 5) (pv 1) (fun _ _ => rfl))))) pa_nil)))
 (pss_cons (ps_set (i := 3) sc__law_coefficients.nd rfl (Or.inl rfl) (pe_lst pa_nil))
 (pss_cons (ps_for PassesOwn.never rfl (pi_range1 (by rfl) T.z_range (pa_cons (pe_op op_add (pv 2) pe_int) pa_nil)) (pg_name (i := 4) sc__law_coefficients.nd rfl (Or.inr rfl)) (pss_one (ps_expr (pe_bm PySem.F.plainAttrs_list PySem.F.slot_list_append PySem.F.type_list_append mt_append (pv 3) (pa_cons (pe_cc C__law_gather hr (by decide) (by rfl) (pa_cons (pe_lc (own := [("one", 5)]) (g := gName 5) rfl sc__law_coefficients.nd (k_piT (K := K) rfl (pv 0)) (blkOk_by (own := [("one", 5)]) (N := ["terms", "at", "degree", "rows", "power", "one"]) (sc := defScope s__law_coefficients) (by decide +kernel)) (fun _ _ _ _ _ => pg_name (i := 5) sc__law_coefficients.nd rfl (Or.inl rfl)) (fun _ _ _ _ _ => (pts_one (pt_cmpR op_eq (pe_ix (k_ixT (K := K) rfl) (pv 5) (pv 1) (fun _ _ => rfl)) (pv 4) (nomark _)))) (fun _ _ _ _ _ => (pe_cc C__law_moved hr (by decide) (by rfl) (pa_cons (pv 5) (pa_cons (pv 1) (pa_cons pe_int pa_nil)))))) pa_nil)) pa_nil)))))
 (pss_one (ps_ret (pv 3)))))), ?_⟩
  refine w_start (σ := [some _, some _, none, none, none, none]) rfl ?_
  walk_at "go"
  refine w_newL (show 1 ≤ sizeLine by decide) fun l1 Hx2 n2 c2 h2 => ?_
  walk_at "go"
  have c12 := Ch.trans Ch.refl c2
  refine lc_e ts (walk_tup (K := K) (a := a) (xs := xs)) hm.len.symm (fun _ => true) (fun t v H => v = .int ((exN n) t)) (fun _ _ _ _ _ _ h => h) (fun H' c => (c12.trans c).sqT hx) (by rw [hm.len]; omega) ?st ?_
  case st =>
    rintro k1 t x H5 H6 ht c5 ⟨rfl, hx⟩ Nx A1 hN hA
    obtain ⟨v, e1, b1, rfl, hb1⟩ := hm.at_ k1 t ht
    rw [hx] at e1
    cases e1
    have hb1 := (c12.trans c5).sqT hb1
    walk_at "go"
    refine ⟨rfl, ?_⟩
    walk_at "go"
    refine w_ixT hb1 (exAt hn t) ?_
    exact hA _ H6 .refl rfl rfl
  intro Dm Hm3 out nDm cm3 hDm elm
  rw [filter_yes] at elm
  have eo : out = ivs (ts.map (exN n)) := by
    rw [ivs, List.map_map]
    have := els_map (f := fun v => v) (g := fun t => V.int ((exN n) t)) elm (fun _ _ _ h => h)
    rw [List.map_id'] at this
    exact this
  subst eo
  have big8 : (800001 : Nat) ≤ sizeLine := by decide
  refine w_cat (cm3.at0 h2) hDm (by rw [List.length_map, List.length_map]; simp only [List.length_cons, List.length_nil]; omega) fun mL Hm4 nm4 cm4 hm4 => ?_
  walk_at "go"
  have hm4 : Hm4 mL = some (.lst (ivs ([-1] ++ ts.map (exN n)))) := by
    rw [hm4]
    show _ = some (HO.lst (([-1] ++ ts.map (exN n)).map V.int))
    rw [List.map_append]
    rfl
  refine w_maxL (.of hm4) (by simp) fun mx mx1 mx2 => ?_
  have cm := c12.trans (cm3.trans cm4)
  have cm2 := c2.trans (cm3.trans cm4)
  clear c2 c12 hDm cm3 cm4 hm4 h2
  rw [degI_eq mx1 mx2]
  have dg := degI_ge n ts
  walk_at "go"
  refine w_newL (show 0 ≤ sizeLine by decide) fun l H1 n1 c1 h1 => ?_
  have nl := cm.free n1
  have c1 := cm.trans c1
  have big8 : (800001 : Nat) ≤ sizeLine := by decide
  walk_at "go"
  refine w_iR1r (by omega) (by omega) ?_
  refine for_R (n := (degI n ts + 1).toNat) (fun i σ H' => Ch [] H H' ∧ (∃ out, H' l = some (.lst out) ∧ Els (TmE K) H' out ((List.range i).map fun j : Nat => grp n j ts)) ∧ ∃ z1 z2, σ = [some (.ref a), some (.int ((n : Int) + 1)), some (.int (degI n ts)), some (.ref l), z1, z2])
    ⟨c1, ⟨[], h1, Els.nil⟩, _, _, rfl⟩ ?_ ?_
  · rintro i σ H2 hi ⟨c, ⟨out, hl, el⟩, z1, z2, rfl⟩
    walk_at "go"
    refine ⟨.inl ⟨rfl, _, .of hl⟩, ?_⟩
    walk_at "go"
    refine lc_e ts (walk_tup (K := K) (a := a) (xs := xs)) hm.len.symm (fun t => decide (exN n t = (i : Int))) (fun t v H => Tme K (setN n t.c 0 t) v H) (fun _ _ _ _ _ c h => h.ch c) (fun H' c' => (c.trans c').sqT hx) (by rw [hm.len]; omega) ?_ ?_
    · rintro k t x H5 H6 ht c5 ⟨rfl, hx⟩ Nx A1 hN hA
      obtain ⟨v, e1, b1, rfl, hb1⟩ := hm.at_ k t ht
      rw [hx] at e1
      cases e1
      have hb1 := (c.trans c5).sqT hb1
      walk_at "go"
      refine ⟨rfl, ?_⟩
      walk_at "go"
      refine w_ixT hb1 (exAt hn t) ?_
      walk_at "go"
      refine ite_d (fun h0 => ?_) (fun h0 => ?_)
      · walk_at "go"
        refine ⟨_, n, _, 0, t, rfl, rfl, hn, hb1, fun b3 u H8 eu c8 h8 => ?_⟩
        subst eu
        exact hA _ H8 c8 (decide_eq_true (by omega)) ⟨b3, rfl, h8⟩
      · exact hN _ .refl (decide_eq_false (by omega))
    · intro D H3 out2 nD c3 hD el2
      have em : Tms K H3 out2 (grp n i ts) := el2.map (F := Tme K) (f := fun t : Tm => setN n t.c 0 t) fun _ _ _ h => h
      have gl := grp_len n i ts
      walk_at "go"
      refine ⟨D, _, rfl, ⟨out2, hD, em⟩, by omega, fun t H4 us nfu cu c4 ht _ => ?_⟩
      obtain rfl := nfu.eq (nf_grp (n := n) (j := i) nf) cu
      have c24 := c3.trans c4
      walk_at "go"
      have lo := el.len
      rw [List.length_map, List.length_range] at lo
      refine w_append (c24.at0 hl) (by omega) fun H5 c5 h5 => ?_
      refine ⟨(c.trans c24).cut nl c5, ⟨_, h5, ?_⟩, _, _, rfl⟩
      rw [List.range_succ, List.map_append]
      exact (el.imp fun _ _ _ h => (h.ch c24).ch c5).snoc ⟨t, rfl, ht.ch c5⟩
  · rintro σ H' ⟨c, ⟨out, hl, el⟩, z1, z2, rfl⟩
    walk_at "go"
    exact q l out H' nl c hl el
end
end My
namespace My
open PySem PySem.Spec PyProof.Rows L2
theorem rmeP {K : PySem.W.Frag} {C p : Addr} {H : Hp} {ts : List Tm} {m : Str} {R : Prop} (h : Po K C H p ts) (hl : ∀ t : V, [(Str.ofString "terms", t)].lookup m = none) (q : R) : RMe C m (.ref p) H R := by
  obtain ⟨dx, t, h, _⟩ := h
  exact ⟨p, dx, _, rfl, h, hl _, q⟩
theorem gcdL_snoc (ns : List Int) (n : Int) : gcdL (ns ++ [n]) = Nat.gcd (gcdL ns) n.natAbs := by
  unfold gcdL
  rw [List.foldl_append]
  rfl
theorem usN_lay (n : Nat) : PyData.canLay0 (.str (usN n)) = true := by
  have h0 : PyData.canLay0 (.str (usN 0)) = true := by decide +kernel
  have h1 : PyData.canLay0 (.str (usN 1)) = true := by decide +kernel
  have h2 : PyData.canLay0 (.str (usN 2)) = true := by decide +kernel
  match n with
  | 0 => exact h0
  | 1 => exact h1
  | _ + 2 => exact h2
theorem xyz_at {n : Nat} (h : n < 3) {i : Int} (hi : i = (n : Int)) : atI [V.str (Str.ofString "x"), .str (Str.ofString "y"), .str (Str.ofString "z")] i = some (.str (usN n)) := by
  refine atI_at (k := n) hi ?_
  obtain rfl | rfl | rfl : n = 0 ∨ n = 1 ∨ n = 2 := by omega
  all_goals rfl
theorem cont_bd {z : Nat} {ts : List Tm} (h : Nf ts) (b : Cb z ts) (ne : ts ≠ []) : (cont ts).natAbs < 2 ^ z := by
  obtain ⟨c0, cd⟩ := cont_ne ne h
  cases ts with
  | nil => exact absurd rfl ne
  | cons t ts =>
    have a := cd t List.mem_cons_self
    have c := h.nz t List.mem_cons_self
    have d := b t List.mem_cons_self
    exact Nat.lt_of_le_of_lt (Nat.le_of_dvd (by omega) a) d
section
variable {P : Program} {w : World} {K : PySem.W.Frag} {mg : Str → Option Value} {base : Heap}
abbrev s__law_whole : Stmt := topS 53
theorem sc__law_whole : FnScope ["p", "terms", "point", "degree", "names", "at", "told", "content", "one"] ["p", "terms", "point"] (defScope s__law_whole) := ⟨rfl, rfl, rfl, by decide +kernel, rfl, by decide +kernel, by decide +kernel⟩
def sp__law_whole (K : PySem.W.Frag) (C : Addr) : Sp := fun vs H Q _ => ∃ (p a pt : Addr) (ts : List Tm) (f : Nat → Int × Int), vs = [.ref p, .ref a, .ref pt] ∧ Po K C H p ts ∧ TmT K H a ts ∧ Pt3 K H pt f ∧ Fin0 146 12 ts ∧ ts.length ≤ 17 ∧ (∀ n, n < 3 → (f n).1.natAbs < 2 ^ 58 ∧ (f n).2.natAbs < 2 ^ 58 ∧ 0 < (f n).2) ∧
  ∀ H', Ch [] H H' → Q (.bl true) H'
theorem c__law_whole {A_Poly : Addr} (T : Txt mg) (T_P : PolyK K mg A_Poly) (C_P_degree : CalM P w K mg base 1 A_Poly "degree" (sp_P_degree K A_Poly)) (C_P_unknowns : CalM P w K mg base 5 A_Poly "unknowns" (sp_P_unknowns K A_Poly)) (C_P_value : CalM P w K mg base 5 A_Poly "value" (sp_P_value K A_Poly)) (C_P_primitive : CalM P w K mg base 6 A_Poly "primitive" (sp_P_primitive K A_Poly))
    (C__law_is_int : Cal P w K mg base 1 "_law_is_int" sp__law_is_int) (C__law_same : Cal P w K mg base 2 "_law_same" (sp__law_same K)) (C__law_value : Cal P w K mg base 2 "_law_value" (sp__law_value K)) (C__law_gcd : Cal P w K mg base 1 "_law_gcd" sp__law_gcd) (C__law_is : Cal P w K mg base 2 "_law_is" (sp__law_is K A_Poly))
    {f : Addr} {fd : FuncData} (F : DefF K mg "_law_whole" s__law_whole ["p", "terms", "point"] f fd) : Cal P w K mg base 8 "_law_whole" (sp__law_whole K A_Poly) := by
  refine cal_of F sc__law_whole (fun vs H Q E h => by obtain ⟨_, _, _, _, _, rfl, _⟩ := h; rfl) (fun cdv A outer s H vs Q E hr h => ?_)
  obtain ⟨p, a, pt, ts, f, rfl, hp, ha, hpt, fin, lt, hb, q⟩ := h
  obtain ⟨xs, hx, hm⟩ := id ha
  refine ⟨_, (pss_cons (ps_set (i := 3) sc__law_whole.nd rfl (Or.inl rfl) (pe_mm0 T_P.cls C_P_degree hr (by decide) (pv 0)))
 (pss_cons (ps_if (PW.pt (pw_or (pt_not (pt_val (pe_cc C__law_is_int hr (by decide) (by rfl) (pa_cons (pv 3) pa_nil)))) (pw_or1 (pt_cmpR op_ne (pv 3) (pe_callB (k_max (K := K) rfl rfl) (by rfl) T.z_max (by decide +kernel) (pa_cons (pe_op op_cat (pe_lst (pa_cons (pe_un un_neg pe_int) pa_nil)) (pe_lc (own := [("one", 8)]) (g := gName 8) rfl sc__law_whole.nd (k_piT (K := K) rfl (pv 1)) (blkOk_by (own := [("one", 8)]) (N := ["p", "terms", "point", "degree", "names", "at", "told", "content", "one"]) (sc := defScope s__law_whole) (by decide +kernel)) (fun _ _ _ _ _ => pg_name (i := 8) sc__law_whole.nd rfl (Or.inl rfl)) (fun _ _ _ _ _ => pts_nil) (fun _ _ _ _ _ => (pe_op op_add (pe_op op_add (pe_ix (k_ixT (K := K) rfl) (pv 8) pe_int (fun _ _ => rfl)) (pe_ix (k_ixT (K := K) rfl) (pv 8) pe_int (fun _ _ => rfl))) (pe_ix (k_ixT (K := K) rfl) (pv 8) pe_int (fun _ _ => rfl)))))) pa_nil)) (nomark _))))) (pss_one (ps_ret pe_bl)) pss_nil)
 (pss_cons (ps_set (i := 4) sc__law_whole.nd rfl (Or.inl rfl) (pe_lst pa_nil))
 (pss_cons (ps_for PassesOwn.never rfl (pi_range2 (by rfl) T.z_range (pa_cons pe_int (pa_cons pe_int pa_nil))) (pg_name (i := 5) sc__law_whole.nd rfl (Or.inr rfl)) (pss_one (ps_if (pt_cmpR op_gt (pe_callB (k_max (K := K) rfl rfl) (by rfl) T.z_max (by decide +kernel) (pa_cons (pe_op op_cat (pe_lst (pa_cons pe_int pa_nil)) (pe_lc (own := [("one", 8)]) (g := gName 8) rfl sc__law_whole.nd (k_piT (K := K) rfl (pv 1)) (blkOk_by (own := [("one", 8)]) (N := ["p", "terms", "point", "degree", "names", "at", "told", "content", "one"]) (sc := defScope s__law_whole) (by decide +kernel)) (fun _ _ _ _ _ => pg_name (i := 8) sc__law_whole.nd rfl (Or.inl rfl)) (fun _ _ _ _ _ => pts_nil) (fun _ _ _ _ _ => (pe_ix (k_ixT (K := K) rfl) (pv 8) (pv 5) (fun _ _ => rfl))))) pa_nil)) pe_int (nomark _)) (pss_one (ps_expr (pe_bm PySem.F.plainAttrs_list PySem.F.slot_list_append PySem.F.type_list_append mt_append (pv 4) (pa_cons (pe_ix (k_ixL (K := K) rfl) (pe_lst (pa_cons pe_str (pa_cons pe_str (pa_cons pe_str pa_nil)))) (pe_op op_sub (pv 5) pe_int) (fun _ _ => rfl)) pa_nil)))) pss_nil)))
 (pss_cons (ps_set (i := 6) sc__law_whole.nd rfl (Or.inl rfl) (pe_mm0 T_P.cls C_P_unknowns hr (by decide) (pv 0)))
 (pss_cons (ps_if (PW.pt (pw_or (pt_not (pt_val (pe_callB (k_isi (K := K) rfl) (by rfl) T.z_isinstance (by decide +kernel) (pa_cons (pv 6) (pa_cons (pe_bltn (by rfl) T.z_tuple (by decide +kernel) (v := .ty "tuple") rfl) pa_nil))))) (pw_or1 (pt_cmpR (k_neD (K := K) rfl hr.units) (pv 6) (pe_callTy (k_tuple (K := K) rfl) (by rfl) T.z_tuple (by decide +kernel) (pa_cons (pv 4) pa_nil)) (nomark _))))) (pss_one (ps_ret pe_bl)) pss_nil)
 (pss_cons (ps_if (pt_not (pt_val (pe_cc C__law_same hr (by decide) (by rfl) (pa_cons (pe_mm T_P.cls C_P_value hr (by decide) (pv 0) (pa_cons (pv 2) pa_nil)) (pa_cons (pe_cc C__law_value hr (by decide) (by rfl) (pa_cons (pv 1) (pa_cons (pv 2) pa_nil))) pa_nil))))) (pss_one (ps_ret pe_bl)) pss_nil)
 (pss_cons (ps_set (i := 7) sc__law_whole.nd rfl (Or.inr rfl) pe_int)
 (pss_cons (ps_for PassesOwn.never rfl (k_piT (K := K) rfl (pv 1)) (pg_name (i := 8) sc__law_whole.nd rfl (Or.inl rfl)) (pss_one (ps_set (i := 7) sc__law_whole.nd rfl (Or.inr rfl) (pe_cc C__law_gcd hr (by decide) (by rfl) (pa_cons (pv 7) (pa_cons (pe_ix (k_ixT (K := K) rfl) (pv 8) pe_int (fun _ _ => rfl)) pa_nil))))))
 (Evl.pss_cut (ps_if (PW.pt (pw_and (k_tru (K := K) rfl (pv 1)) (pw_and1 (pt_cmpR op_lt (pe_ix (k_ixT (K := K) rfl) (pe_ix (k_ixT (K := K) rfl) (pv 1) pe_int (fun _ _ => rfl)) pe_int (fun _ _ => rfl)) pe_int (nomark _))))) (pss_one (ps_set (i := 7) sc__law_whole.nd rfl (Or.inr rfl) (pe_un un_neg (pv 7)))) pss_nil)
 (pss_cons (ps_set (i := 6) sc__law_whole.nd rfl (Or.inl rfl) (pe_mm0 T_P.cls C_P_primitive hr (by decide) (pv 0)))
 (pss_cons (ps_if (PW.pt (pw_or (pt_not (pt_val (pe_callB (k_isi (K := K) rfl) (by rfl) T.z_isinstance (by decide +kernel) (pa_cons (pv 6) (pa_cons (pe_bltn (by rfl) T.z_tuple (by decide +kernel) (v := .ty "tuple") rfl) pa_nil))))) (pw_or (pt_cmpR op_ne (pe_callB (k_len (K := K) rfl) (by rfl) T.z_len PySem.boot_len (pa_cons (pv 6) pa_nil)) pe_int (nomark _)) (pw_or (pt_not (pt_val (pe_cc C__law_is_int hr (by decide) (by rfl) (pa_cons (pe_ix (k_ixT (K := K) rfl) (pv 6) pe_int (fun _ _ => rfl)) pa_nil)))) (pw_or1 (pt_cmpR op_ne (pe_ix (k_ixT (K := K) rfl) (pv 6) pe_int (fun _ _ => rfl)) (pv 7) (nomark _))))))) (pss_one (ps_ret pe_bl)) pss_nil)
 (pss_one (ps_ret (pe_cc C__law_is hr (by decide) (by rfl) (pa_cons (pe_ix (k_ixT (K := K) rfl) (pv 6) pe_int (fun _ _ => rfl)) (pa_cons (pe_callTy (k_tuple (K := K) rfl) (by rfl) T.z_tuple (by decide +kernel) (pa_cons (pe_lc (own := [("one", 8)]) (g := gName 8) rfl sc__law_whole.nd (k_piT (K := K) rfl (pv 1)) (blkOk_by (own := [("one", 8)]) (N := ["p", "terms", "point", "degree", "names", "at", "told", "content", "one"]) (sc := defScope s__law_whole) (by decide +kernel)) (fun _ _ _ _ _ => pg_name (i := 8) sc__law_whole.nd rfl (Or.inl rfl)) (fun _ _ _ _ _ => pts_nil) (fun _ _ _ _ _ => (pe_op (k_catT (K := K) rfl) (pe_tup (pa_cons (pe_op op_fdivG (pe_ix (k_ixT (K := K) rfl) (pv 8) pe_int (fun _ _ => rfl)) (pv 7)) pa_nil)) (pe_slice (k_slT (K := K) rfl) (pv 8) (po_some pe_int) po_none)))) pa_nil)) pa_nil))))))))))))))))), ?_⟩
  refine w_start (σ := [some _, some _, some _, none, none, none, none, none, none]) rfl ?_
  walk_at "go"
  refine rmeP hp (fun _ => rfl) ?_
  walk_at "go"
  refine ⟨p, ts, rfl, hp, ?_⟩
  walk_at "go"
  refine ⟨_, rfl, ?_⟩
  walk_at "go"
  refine w_newL (show 1 ≤ sizeLine by decide) fun l1 Hx2 n2 c2 h2 => ?_
  walk_at "go"
  have c12 := Ch.trans Ch.refl c2
  refine lc_e ts (walk_tup (K := K) (a := a) (xs := xs)) hm.len.symm (fun _ => true) (fun t v H => v = .int ((fun t : Tm => t.i + t.j + t.k) t)) (fun _ _ _ _ _ _ h => h) (fun H' c => (c12.trans c).sqT hx) (by rw [hm.len]; omega) ?st ?_
  case st =>
    rintro k1 t x H5 H6 ht c5 ⟨rfl, hx⟩ Nx A1 hN hA
    obtain ⟨v, e1, b1, rfl, hb1⟩ := hm.at_ k1 t ht
    rw [hx] at e1
    cases e1
    have hb1 := (c12.trans c5).sqT hb1
    walk_at "go"
    refine ⟨rfl, ?_⟩
    walk_at "go"
  
    exact hA _ H6 .refl rfl rfl
  intro Dm Hm3 out nDm cm3 hDm elm
  rw [filter_yes] at elm
  have eo : out = ivs (ts.map (fun t : Tm => t.i + t.j + t.k)) := by
    rw [ivs, List.map_map]
    have := els_map (f := fun v => v) (g := fun t => V.int ((fun t : Tm => t.i + t.j + t.k) t)) elm (fun _ _ _ h => h)
    rw [List.map_id'] at this
    exact this
  subst eo
  have big8 : (800001 : Nat) ≤ sizeLine := by decide
  refine w_cat (cm3.at0 h2) hDm (by rw [List.length_map, List.length_map]; simp only [List.length_cons, List.length_nil]; omega) fun mL Hm4 nm4 cm4 hm4 => ?_
  walk_at "go"
  have hm4 : Hm4 mL = some (.lst (ivs ([-1] ++ ts.map (fun t : Tm => t.i + t.j + t.k)))) := by
    rw [hm4]
    show _ = some (HO.lst (([-1] ++ ts.map (fun t : Tm => t.i + t.j + t.k)).map V.int))
    rw [List.map_append]
    rfl
  refine w_maxL (.of hm4) (by simp) fun mx mx1 mx2 => ?_
  have cm := c12.trans (cm3.trans cm4)
  have cm2 := c2.trans (cm3.trans cm4)
  clear c2 c12 hDm cm3 cm4 hm4 h2
  obtain rfl := degT_max fin.nf mx1 mx2 fin.e
  walk_at "go"
  refine ite_ndf rfl ?_
  walk_at "go"
  refine w_newL (show 0 ≤ sizeLine by decide) fun l H1 n1 c1 h1 => ?_
  have nl := cm.free n1
  have c1 := cm.trans c1
  clear cm cm2
  have dl : ∀ n, degI n ts ≤ 12 := fun n => degI_le12 fin.i
  walk_at "go"
  refine w_iR2r ⟨by decide, by decide, by decide, by decide⟩ ?_
  refine for_R (n := 3) (fun i σ H' => Ch [] H H' ∧ H' l = some (.lst ((((List.range i).filter fun n => decide (0 < degI n ts)).map usN).map V.str)) ∧ ∃ z1 z2 z3 z4, σ = [some (.ref p), some (.ref a), some (.ref pt), some (.int (degT ts)), some (.ref l), z1, z2, z3, z4])
    ⟨c1, h1, _, _, _, _, rfl⟩ ?_ ?_
  · rintro i σ H2 hi ⟨c, hl, z1, z2, z3, z4, rfl⟩
    walk_at "go"
    refine w_newL (show 1 ≤ sizeLine by decide) fun l1 Hx2 n2 c2 h2 => ?_
    walk_at "go"
    have c12 := Ch.trans c c2
    refine lc_e ts (walk_tup (K := K) (a := a) (xs := xs)) hm.len.symm (fun _ => true) (fun t v H => v = .int ((exN i) t)) (fun _ _ _ _ _ _ h => h) (fun H' c => (c12.trans c).sqT hx) (by rw [hm.len]; omega) ?st ?_
    case st =>
      rintro k1 t x H5 H6 ht c5 ⟨rfl, hx⟩ Nx A1 hN hA
      obtain ⟨v, e1, b1, rfl, hb1⟩ := hm.at_ k1 t ht
      rw [hx] at e1
      cases e1
      have hb1 := (c12.trans c5).sqT hb1
      walk_at "go"
      refine ⟨rfl, ?_⟩
      walk_at "go"
      refine w_ixT hb1 (by rw [Int.add_comm, exAt hi t]) ?_
      exact hA _ H6 .refl rfl rfl
    intro Dm Hm3 out nDm cm3 hDm elm
    rw [filter_yes] at elm
    have eo : out = ivs (ts.map (exN i)) := by
      rw [ivs, List.map_map]
      have := els_map (f := fun v => v) (g := fun t => V.int ((exN i) t)) elm (fun _ _ _ h => h)
      rw [List.map_id'] at this
      exact this
    subst eo
    have big8 : (800001 : Nat) ≤ sizeLine := by decide
    refine w_cat (cm3.at0 h2) hDm (by rw [List.length_map, List.length_map]; simp only [List.length_cons, List.length_nil]; omega) fun mL Hm4 nm4 cm4 hm4 => ?_
    walk_at "go"
    have hm4 : Hm4 mL = some (.lst (ivs ([0] ++ ts.map (exN i)))) := by
      rw [hm4]
      show _ = some (HO.lst (([0] ++ ts.map (exN i)).map V.int))
      rw [List.map_append]
      rfl
    refine w_maxL (.of hm4) (by simp) fun mx mx1 mx2 => ?_
    have cm := c12.trans (cm3.trans cm4)
    have cm2 := c2.trans (cm3.trans cm4)
    clear c2 c12 hDm cm3 cm4 hm4 h2
    obtain rfl := deg0_eq mx1 mx2
    have hl2 := cm2.at0 hl
    have ll : (((List.range i).filter fun n => decide (0 < degI n ts)).map usN).length ≤ 3 := by
      rw [List.length_map]
      have := List.length_filter_le (fun n => decide (0 < degI n ts)) (List.range i)
      rw [List.length_range] at this
      omega
    walk_at "go"
    rw [List.range_succ, List.filter_append]
    refine ite_d (fun h0 => ?_) (fun h0 => ?_)
    · walk_at "go"
      refine ⟨.inl ⟨rfl, _, .of hl2⟩, ?_⟩
      walk_at "go"
      refine w_newL (show 3 ≤ sizeLine by decide) fun l3 H3 n3 c3 h3 => ?_
      walk_at "go"
      refine w_ixL (.of h3) (xyz_at hi (by omega)) ?_
      walk_at "go"
      have z8 : (1000 : Nat) ≤ sizeLine := by decide
      refine w_append (c3.at0 hl2) (by rw [List.length_map]; omega) fun H5 c5 h5 => ?_
      refine ⟨(cm.trans c3).cut nl c5, ?_, _, _, _, _, rfl⟩
      rw [h5, List.filter_cons_of_pos (p := fun n => decide (0 < degI n ts)) (a := i) (l := []) (decide_eq_true (deg_pos.mp h0)), List.filter_nil, List.map_append, List.map_append]
      rfl
    · walk_at "go"
      refine ⟨cm, ?_, _, _, _, _, rfl⟩
      rw [hl2, List.filter_cons_of_neg (p := fun n => decide (0 < degI n ts)) (a := i) (l := []) (by rw [decide_eq_true_eq]; exact fun z => h0 (deg_pos.mpr z)), List.filter_nil, List.append_nil]
  rintro σ H2 ⟨c2, hl, z1, z2, z3, z4, rfl⟩
  walk_at "go"
  refine rmeP (hp.ch c2) (fun _ => rfl) ?_
  walk_at "go"
  refine ⟨p, ts, rfl, hp.ch c2, by omega, fun t1 H3 c3 h3 => ?_⟩
  have hl3 := c3.at0 hl
  walk_at "go"
  refine w_tupleL (.of hl3) fun t2 H4 n4 c4 h4 => ?_
  refine w_neStrs (p := unkL ts) (c4.sqT (.of h3)) (.of h4) (fun x m => ?_) (fun x m => ?_) ?_
  · obtain ⟨n, _, rfl⟩ := List.mem_map.mp m
    exact usN_lay n
  · obtain ⟨n, _, rfl⟩ := List.mem_map.mp m
    exact usN_lay n
  refine ⟨_, rfl, ?_⟩
  refine ite_ndf rfl ?_
  have c24 := c2.trans (c3.trans c4)
  walk_at "go"
  refine rmeP (hp.ch c24) (fun _ => rfl) ?_
  walk_at "go"
  refine ⟨p, pt, ts, f, 58, 146, rfl, hp.ch c24, by omega, fin.e, hpt.ch c24, fun n hn => ⟨(hb n hn).1, (hb n hn).2.1, by have := (hb n hn).2.2; omega⟩, by decide, fun n _ => by have := dl n; omega, ?_, fin.c, by decide, fun v x y H5 lo c5 hv => ?_⟩
  · have m0 := dl 0
    have m1 := dl 1
    have m2 := dl 2
    unfold mdeg
    omega
  have c25 := c24.trans c5
  walk_at "go"
  refine ⟨a, pt, ts, f, rfl, ha.ch c25, hpt.ch c25, fin, by omega, hb, fun v2 x2 y2 H6 lo2 c6 hv2 => ?_⟩
  obtain ⟨rfl, rfl⟩ := lo.uniq lo2 (by
    refine Int.ne_of_gt (Int.mul_pos (Int.mul_pos (Int.pow_pos (hb 0 (by decide)).2.2) (Int.pow_pos (hb 1 (by decide)).2.2)) (Int.pow_pos (hb 2 (by decide)).2.2)))
  walk_at "go"
  refine ⟨v, v2, [x, y], [x, y], rfl, c6.sqT hv, hv2, show 2 ≤ 1000 by decide, show 2 ≤ 1000 by decide, fun H7 c7 => ?_⟩
  rw [decide_eq_true rfl]
  refine ⟨_, rfl, ?_⟩
  have c27 := c25.trans (c6.trans c7)
  clear c2 c24 c25
  walk_at "go"
  refine for_eT (E := Tme K) (ls := ts) (Pv := fun i σ H' => H' = H7 ∧ ∃ z6, σ = [some (.ref p), some (.ref a), some (.ref pt), some (.int (degT ts)), some (.ref l), z1, some (.ref t1), some (.int (gcdL ((ts.take i).map Tm.c) : Nat)), z6]) hm.len ⟨rfl, _, rfl⟩ (fun i σ H' _ h => by obtain ⟨rfl, _⟩ := h; exact ⟨c27.sqT hx, hm.chm c27⟩) ?_ ?_
  · rintro i t x σ H' ht ⟨rfl, z6, rfl⟩ hx
    obtain ⟨b, rfl, hb1⟩ := hx
    walk_at "go"
    refine ⟨_, _, 146, rfl, fin.c t (List.mem_of_getElem? ht), by decide, ?_⟩
    rw [take_snoc ht, List.map_append, List.map_cons, List.map_nil, gcdL_snoc, Int.natAbs_natCast]
    exact ⟨rfl, _, rfl⟩
  rintro σ H' ⟨rfl, z6, rfl⟩
  rw [List.take_length]
  have hx7 := c27.sqT hx
  walk_at "go"
  refine w_cut (M := fun σ' Hx => Hx = H' ∧ ∃ z6, σ' = [some (.ref p), some (.ref a), some (.ref pt), some (.int (degT ts)), some (.ref l), z1, some (.ref t1), some (.int (cont ts)), z6]) ?_ ?_
  · walk_at "go"
    refine w_truT hx7 ?_
    refine ite_b (fun he => ?_) (fun he => ?_)
    · obtain ⟨u, ts', rfl⟩ : ∃ u ts', ts = u :: ts' := by
        cases ts with
        | nil =>
          have := hm.len
          rw [List.eq_nil_of_length_eq_zero this] at he
          cases he
        | cons u ts' => exact ⟨u, ts', rfl⟩
      obtain ⟨v, e1, b, rfl, hb⟩ := hm.at_ 0 u rfl
      have hb := c27.sqT hb
      walk_at "go"
      refine w_ixT hx7 (atI_nat (j := 0) e1) ?_
      walk_at "go"
      refine ite_d (fun h => ?_) (fun h => ?_)
      · walk_at "go"
        refine ⟨rfl, z6, ?_⟩
        rw [cont_cons, if_pos h]
        rfl
      · walk_at "go"
        refine ⟨rfl, z6, ?_⟩
        rw [cont_cons, if_neg h]
    · have : ts = [] := by
        cases ts with
        | nil => rfl
        | cons u ts' =>
          have := hm.len
          cases xs with
          | nil => cases this
          | cons _ _ => cases he
      subst this
      walk_at "go"
      exact ⟨rfl, _, rfl⟩
  rintro σ' H8 ⟨rfl, z6, rfl⟩
  walk_at "go"
  refine rmeP (hp.ch c27) (fun _ => rfl) ?_
  walk_at "go"
  refine ⟨p, ts, 146, rfl, hp.ch c27, fin.nf, by omega, fin.c, by decide, fun t3 r H9 c9 h9 hr9 => ?_⟩
  have c29 := c27.trans c9
  walk_at "go"
  refine ⟨_, rfl, ?_⟩
  walk_at "go"
  refine ite_ndf rfl ?_
  walk_at "go"
  refine lc_e ts (walk_tup (K := K) (a := a) (xs := xs)) hm.len.symm (fun _ => true) (fun t v H => Tme K ⟨t.c.fdiv (cont ts), t.i, t.j, t.k⟩ v H) (fun _ _ _ _ _ c h => h.ch c) (fun H' c => (c29.trans c).sqT hx) (by rw [hm.len]; omega) ?_ ?_
  · rintro k t x H5 H6 ht c5 ⟨rfl, hx⟩ Nx A1 hN hA
    obtain ⟨v, e1, b1, rfl, hb1⟩ := hm.at_ k t ht
    rw [hx] at e1
    cases e1
    have hb1 := (c29.trans c5).sqT hb1
    have ne : ts ≠ [] := fun z => by rw [z] at ht; cases ht
    walk_at "go"
    refine ⟨rfl, ?_⟩
    walk_at "go"
    refine w_I (div_ok (cont_ne ne fin.nf).1 (cont_bd fin.nf fin.c ne) (by decide)) ?_
    walk_at "go"
    refine w_newT (show 1 ≤ sizeLine by decide) fun b3 H8 n8 c8 h8 => ?_
    have hb1 := c8.sqT hb1
    walk_at "go"
    refine w_slTn hb1 (fun z => absurd z.1 (show ¬ HT.sIx 4 0 (some 1) = 0 by decide)) fun b2 H10 n10 c10 h10 => ?_
    have h10 : H10 b2 = some (.tup [.int t.i, .int t.j, .int t.k]) := by rw [h10, cutV_from (i := 1) (k := 1) rfl]; rfl
    refine w_catA (c10.sqT (.of h8)) (.of h10) (show 4 ≤ sizeLine by decide) fun b4 H11 c11 h11 => ?_
    exact hA _ H11 (c8.trans (c10.trans c11)) rfl ⟨b4, rfl, h11⟩
  · intro D H3 out nD c3 hD el
    rw [filter_yes] at el
    walk_at "go"
    refine w_tupleL (.of hD) fun v3 H4 n4 c4 h4 => ?_
    have c34 := c3.trans c4
    walk_at "go"
    refine ⟨r, v3, prmL ts, rfl, hr9.ch c34, ⟨out, .of h4, ?_⟩, by unfold prmL; rw [List.length_map]; omega, fun H5 c5 => ?_⟩
    · exact (el.map (F := Tme K) (f := fun t : Tm => ⟨t.c.fdiv (cont ts), t.i, t.j, t.k⟩) fun _ _ _ h => h).chm c4
    exact q H5 (c29.trans (c34.trans c5))
end
end My
namespace My
open PySem PySem.Spec PyProof.Rows L2
section
variable {P : Program} {w : World} {K : PySem.W.Frag} {mg : Str → Option Value} {base : Heap}
theorem w_rep0 {H : Hp} {Q : VK} {l : Addr} {i : Int} {n : Nat} (h : H l = some (.lst [.int 0])) (hk : i = (n : Int)) (hn : n ≤ 100000) (q : ∀ p H', H p = none → Ch [] H H' → H' p = some (.lst (ivs (List.replicate n 0))) → Q (.ref p) H') : rRep (.ref l) (.int i) H Q := by
  subst hk
  refine ⟨l, n, [.int 0], rfl, rfl, h, by omega, by omega, ?_, ?_⟩
  · rw [Int.toNat_natCast]
    exact sz_le (by simp only [List.length_cons, List.length_nil]; omega)
  · have e : (List.replicate ((n : Int).toNat) [V.int 0]).flatten = ivs (List.replicate n 0) := by
      rw [Int.toNat_natCast, ivs, List.map_replicate]
      clear hn q
      induction n with
      | zero => rfl
      | succ n ih => rw [List.replicate_succ, List.replicate_succ, List.flatten_cons, ih]; rfl
    rw [e]
    exact w_new q
/-! ### _law_plus -/
abbrev s__law_row_of : Stmt := topS 54
theorem sc__law_row_of : FnScope ["p", "terms", "at", "alone", "numbers", "one", "told", "raised"] ["p", "terms", "at"] (defScope s__law_row_of) := ⟨rfl, rfl, rfl, by decide +kernel, rfl, by decide +kernel, by decide +kernel⟩
def sp__law_row_of (K : PySem.W.Frag) (C : Addr) : Sp := fun vs H Q _ => ∃ (p a : Addr) (n : Nat) (at_ : Int) (ts : List Tm), vs = [.ref p, .ref a, .int at_] ∧ at_ = (n : Int) + 1 ∧ n < 3 ∧ Po K C H p ts ∧ TmT K H a ts ∧ ExpOk ts ∧ ts.length ≤ 300 ∧ (∀ n, n < 3 → degI n ts ≤ 900) ∧ ∀ H', Ch [] H H' → Q (.bl true) H'
theorem c__law_row_of {A_Poly A_InvalidUnknown A_NotOneUnknown A_CellspireError : Addr} (T : Txt mg) (T_P : PolyK K mg A_Poly) (z_ValueError : mg "ValueError" = none) (G_NotOneUnknown : mg "NotOneUnknown" = some (.ref A_NotOneUnknown)) (G_InvalidUnknown : mg "InvalidUnknown" = some (.ref A_InvalidUnknown))
    (G_CellspireError : mg "CellspireError" = some (.ref A_CellspireError)) (XC_NotOneUnknown : ExcC K A_NotOneUnknown)
    (e1 : PySem.W.exmOne K (.ref A_NotOneUnknown) (.ref A_NotOneUnknown) = some true) (e2 : PySem.W.kitOne K (.ref A_NotOneUnknown) (.ref A_InvalidUnknown) = some false) (e3 : PySem.W.kitOne K (.ref A_NotOneUnknown) (.ref A_CellspireError) = some true) (e4 : PySem.W.kitOne K (.ref A_NotOneUnknown) (.type "ValueError") = some true)
    (C_P_as_row : CalMN P w K mg base 5 A_Poly "as_row" (sp_P_as_row K A_Poly A_InvalidUnknown A_NotOneUnknown)) (C__law_same : Cal P w K mg base 2 "_law_same" (sp__law_same K))
    {f : Addr} {fd : FuncData} (F : DefF K mg "_law_row_of" s__law_row_of ["p", "terms", "at"] f fd) : Cal P w K mg base 6 "_law_row_of" (sp__law_row_of K A_Poly) := by
  refine cal_of F sc__law_row_of (fun vs H Q E h => by obtain ⟨_, _, _, _, _, rfl, _⟩ := h; rfl) (fun cdv A outer s H vs Q E hr h => ?_)
  obtain ⟨p, a, n, at_, ts, rfl, rfl, hn, hp, ha, ex, lt, hdg, q⟩ := h
  obtain ⟨xs, hx, hm⟩ := id ha
  have big8 : (800001 : Nat) ≤ sizeLine := by decide
  refine ⟨_, (pss_cons (ps_set (i := 3) sc__law_row_of.nd rfl (Or.inl rfl) (pe_callB (k_all (K := K) rfl rfl) (by rfl) T.z_all (by decide +kernel) (pa_cons (pe_lc (own := [("one", 5)]) (g := gName 5) rfl sc__law_row_of.nd (k_piT (K := K) rfl (pv 1)) (blkOk_by (own := [("one", 5)]) (N := ["p", "terms", "at", "alone", "numbers", "one", "told", "raised"]) (sc := defScope s__law_row_of) (by decide +kernel)) (fun _ _ _ _ _ => pg_name (i := 5) sc__law_row_of.nd rfl (Or.inl rfl)) (fun _ _ _ _ _ => pts_nil) (fun _ _ _ _ _ => (pe_cmpR op_eq (pe_op op_add (pe_op op_add (pe_ix (k_ixT (K := K) rfl) (pv 5) pe_int (fun _ _ => rfl)) (pe_ix (k_ixT (K := K) rfl) (pv 5) pe_int (fun _ _ => rfl))) (pe_ix (k_ixT (K := K) rfl) (pv 5) pe_int (fun _ _ => rfl))) (pe_ix (k_ixT (K := K) rfl) (pv 5) (pv 2) (fun _ _ => rfl)) (nomark _)))) pa_nil)))
 (pss_cons (ps_set (i := 4) sc__law_row_of.nd rfl (Or.inl rfl) (pe_op op_rep (pe_lst (pa_cons pe_int pa_nil)) (pe_op op_add pe_int (pe_callB (k_max (K := K) rfl rfl) (by rfl) T.z_max (by decide +kernel) (pa_cons (pe_op op_cat (pe_lst (pa_cons (pe_un un_neg pe_int) pa_nil)) (pe_lc (own := [("one", 5)]) (g := gName 5) rfl sc__law_row_of.nd (k_piT (K := K) rfl (pv 1)) (blkOk_by (own := [("one", 5)]) (N := ["p", "terms", "at", "alone", "numbers", "one", "told", "raised"]) (sc := defScope s__law_row_of) (by decide +kernel)) (fun _ _ _ _ _ => pg_name (i := 5) sc__law_row_of.nd rfl (Or.inl rfl)) (fun _ _ _ _ _ => pts_nil) (fun _ _ _ _ _ => (pe_ix (k_ixT (K := K) rfl) (pv 5) (pv 2) (fun _ _ => rfl))))) pa_nil)))))
 (pss_cons (ps_for PassesOwn.never rfl (k_piT (K := K) rfl (pv 1)) (pg_name (i := 5) sc__law_row_of.nd rfl (Or.inl rfl)) (pss_one (ps_asg (pe_ix (k_ixT (K := K) rfl) (pv 5) pe_int (fun _ _ => rfl)) (pg_sub (pv 4) (pe_ix (k_ixT (K := K) rfl) (pv 5) (pv 2) (fun _ _ => rfl)) set_list))))
 (pss_cons (L2N.ps_try_as (i := 7) (Wout := fun _ _ _ _ => False) rfl rfl sc__law_row_of.nd rfl rfl ⟨rfl, by decide, Or.inl G_NotOneUnknown⟩ takesN0 (fun W pn xe tk po => (pss_one (ps_set (i := 6) sc__law_row_of.nd rfl (Or.inl rfl) (pe_mmS T_P.cls C_P_as_row hr (by decide) (letW tk) (pv 0) (pa_cons (pe_ix (k_ixL (K := K) rfl) (pe_lst (pa_cons pe_str (pa_cons pe_str (pa_cons pe_str pa_nil)))) (pe_op op_sub (pv 2) pe_int) (fun _ _ => rfl)) pa_nil)))))
  (fun a oe cls d pn hz hf => (pss_cons (ps_if (PW.pt (pw_or (pt_val (pv 3)) (pw_or1 (pt_val (pe_callB (k_isY (K := K) rfl XC_NotOneUnknown hz.zc hf) (by rfl) T.z_isinstance (by decide +kernel) (pa_cons (pv 7) (pa_cons (pe_glob (v := .ref A_InvalidUnknown) (by rfl) G_InvalidUnknown rfl) pa_nil))))))) (pss_one (ps_ret pe_bl)) pss_nil)
 (pss_one (ps_ret (pe_and (pe_callB (k_isY (K := K) rfl XC_NotOneUnknown hz.zc hf) (by rfl) T.z_isinstance (by decide +kernel) (pa_cons (pv 7) (pa_cons (pe_glob (v := .ref A_CellspireError) (by rfl) G_CellspireError rfl) pa_nil))) (pe_one (pe_callB (k_isY (K := K) rfl XC_NotOneUnknown hz.zc hf) (by rfl) T.z_isinstance (by decide +kernel) (pa_cons (pv 7) (pa_cons (pe_bltn (by rfl) z_ValueError (by decide +kernel) (v := .ty "ValueError") rfl) pa_nil))))))))))
 (pss_one (ps_ret (pe_and (pv 3) (pe_one (pe_cc C__law_same hr (by decide) (by rfl) (pa_cons (pv 6) (pa_cons (pe_callTy (k_tuple (K := K) rfl) (by rfl) T.z_tuple (by decide +kernel) (pa_cons (pv 4) pa_nil)) pa_nil))))))))))), ?_⟩
  refine w_start (σ := [some _, some _, some _, none, none, none, none, none]) rfl ?_
  walk_at "go"
  refine lc_e ts (walk_tup (K := K) (a := a) (xs := xs)) hm.len.symm (fun _ => true) (fun t v H => v = .bl (decide (t.i + t.j + t.k = exN n t))) (fun _ _ _ _ _ _ h => h) (fun H' c => c.sqT hx) (by rw [hm.len]; omega) ?_ ?_
  · rintro k t y H5 H6 ht c5 ⟨rfl, hx⟩ Nx A1 hN hA
    obtain ⟨v, e1, b1, rfl, hb1⟩ := hm.at_ k t ht
    rw [hx] at e1
    cases e1
    have hb1 := c5.sqT hb1
    walk_at "go"
    refine ⟨rfl, ?_⟩
    walk_at "go"
    refine w_ixT hb1 (exAt hn t) ?_
    walk_at "go"
    exact hA _ H6 .refl rfl rfl
  intro D H1 out nD c1 hD el
  rw [filter_yes] at el
  have eo : out = (ts.map fun t => decide (t.i + t.j + t.k = exN n t)).map V.bl := by
    rw [List.map_map]
    have := els_map (f := fun v => v) (g := fun t : Tm => V.bl (decide (t.i + t.j + t.k = exN n t))) el (fun _ _ _ h => h)
    rw [List.map_id'] at this
    exact this
  subst eo
  walk_at "go"
  refine w_all (.of hD) ?_
  have al : ((ts.map fun t => decide (t.i + t.j + t.k = exN n t)).all id) = true ↔ Alone n ts := by
    rw [List.all_map, List.all_eq_true]
    exact ⟨fun h t m => by simpa using h t m, fun h t m => by simpa using h t m⟩
  generalize ((ts.map fun t => decide (t.i + t.j + t.k = exN n t)).all id) = alo at al
  clear hD el nD
  walk_at "go"
  refine w_newL (show 1 ≤ sizeLine by decide) fun l0 H2 n2 c2 h2 => ?_
  have c12 := c1.trans c2
  walk_at "go"
  refine w_newL (show 1 ≤ sizeLine by decide) fun l1 Hx2 n2 c2 h2 => ?_
  walk_at "go"
  have c12 := Ch.trans c12 c2
  refine lc_e ts (walk_tup (K := K) (a := a) (xs := xs)) hm.len.symm (fun _ => true) (fun t v H => v = .int ((exN n) t)) (fun _ _ _ _ _ _ h => h) (fun H' c => (c12.trans c).sqT hx) (by rw [hm.len]; omega) ?st ?_
  case st =>
    rintro k1 t x H5 H6 ht c5 ⟨rfl, hx⟩ Nx A1 hN hA
    obtain ⟨v, e1, b1, rfl, hb1⟩ := hm.at_ k1 t ht
    rw [hx] at e1
    cases e1
    have hb1 := (c12.trans c5).sqT hb1
    walk_at "go"
    refine ⟨rfl, ?_⟩
    walk_at "go"
    refine w_ixT hb1 (exAt hn t) ?_
    exact hA _ H6 .refl rfl rfl
  intro Dm Hm3 out nDm cm3 hDm elm
  rw [filter_yes] at elm
  have eo : out = ivs (ts.map (exN n)) := by
    rw [ivs, List.map_map]
    have := els_map (f := fun v => v) (g := fun t => V.int ((exN n) t)) elm (fun _ _ _ h => h)
    rw [List.map_id'] at this
    exact this
  subst eo
  have big8 : (800001 : Nat) ≤ sizeLine := by decide
  refine w_cat (cm3.at0 h2) hDm (by rw [List.length_map, List.length_map]; simp only [List.length_cons, List.length_nil]; omega) fun mL Hm4 nm4 cm4 hm4 => ?_
  walk_at "go"
  have hm4 : Hm4 mL = some (.lst (ivs ([-1] ++ ts.map (exN n)))) := by
    rw [hm4]
    show _ = some (HO.lst (([-1] ++ ts.map (exN n)).map V.int))
    rw [List.map_append]
    rfl
  refine w_maxL (.of hm4) (by simp) fun mx mx1 mx2 => ?_
  have cm := c12.trans (cm3.trans cm4)
  have cm2 := c2.trans (cm3.trans cm4)
  clear c2 c12 hDm cm3 cm4 hm4 h2
  rw [degI_eq mx1 mx2]
  have h2 := cm2.at0 h2
  have dg := degI_ge n ts
  have dl := hdg n hn
  walk_at "go"
  refine w_rep0 (n := (degI n ts + 1).toNat) h2 (by omega) (by omega) fun D H3 nD c3 hD => ?_
  have nD0 := cm.free nD
  have c13 := cm.trans c3
  clear c1 c2 c12 cm cm2
  walk_at "go"
  refine for_eT (E := Tme K) (ls := ts) (Pv := fun i σ H' => Ch [] H H' ∧ H' D = some (.lst (ivs (rowA n (List.replicate (degI n ts + 1).toNat 0) (ts.take i)))) ∧
    ∃ z1 z2 z3, σ = [some (.ref p), some (.ref a), some (.int ((n : Int) + 1)), some (.bl alo), some (.ref D), z1, z2, z3]) hm.len ⟨c13, hD, _, _, _, rfl⟩ (fun i σ H' _ h => ⟨h.1.sqT hx, hm.chm h.1⟩) ?_ ?_
  · rintro i t x σ H' ht ⟨c, hDl, z1, z2, z3, rfl⟩ hx
    obtain ⟨b, rfl, hb⟩ := hx
    have tm := List.mem_of_getElem? ht
    have e0 : 0 ≤ exN n t := exN_nn (ex t tm)
    have e1 := degI_le (n := n) tm
    walk_at "go"
    refine w_ixT hb (exAt hn t) ?_
    walk_at "go"
    refine w_setL hDl (k := (exN n t).toNat) (by omega) (by rw [List.length_map, rowA_len, List.length_replicate]; omega) fun H4 c4 h4 => ?_
    refine ⟨c.cut nD0 c4, ?_, _, _, _, rfl⟩
    rw [take_snoc ht, rowA_snoc, h4]
    unfold ivs
    rw [List.map_set]
  rintro σ H' ⟨c, hDl, z1, z2, z3, rfl⟩
  rw [List.take_length] at hDl
  have hDl : H' D = some (.lst (ivs (rowL n ts))) := hDl
  have lr : (rowL n ts).length ≤ 1000 := by
    show (rowA n _ ts).length ≤ 1000
    rw [rowA_len, List.length_replicate]
    omega
  walk_at "go"
  refine rmeP (hp.ch c) (fun _ => rfl) ?_
  walk_at "go"
  refine w_newL (show 3 ≤ sizeLine by decide) fun l3 H4 n4 c4 h4 => ?_
  walk_at "go"
  refine w_ixL (.of h4) (xyz_at hn (by omega)) ?_
  walk_at "go"
  have c14 := c.trans c4
  by_cases ha : Alone n ts
  · have ea := al.mpr ha
    subst ea
    refine ⟨p, usN n, ts, rfl, hp.ch c14, by omega, ex, fun n hn => by have := hdg n hn; omega, .inl ⟨n, hn, rfl, .inl ⟨ha, fun t H5 c5 h5 => ?_⟩⟩⟩
    walk_at "go"
    refine w_tupleL (.of ((c4.trans c5).at0 hDl)) fun v H6 n6 c6 h6 => ?_
    walk_at "go"
    refine ⟨t, v, rowL n ts, rowL n ts, rfl, c6.sqT (.of h5), .of h6, lr, lr, fun H7 c7 => ?_⟩
    rw [decide_eq_true rfl]
    exact q H7 (c14.trans (c5.trans (c6.trans c7)))
  · have ea : alo = false := by
      cases alo with
      | false => rfl
      | true => exact absurd (al.mp rfl) ha
    subst ea
    refine ⟨p, usN n, ts, rfl, hp.ch c14, by omega, ex, fun n hn => by have := hdg n hn; omega, .inl ⟨n, hn, rfl, .inr ⟨ha, fun H5 c5 => ?_⟩⟩⟩
    refine ⟨true, e1, fun _ x nx => ?_, fun h => nomatch h⟩
    walk_at "go"
    refine w_isY (cv := .ref A_InvalidUnknown) (.inl rfl) (fun u r => r) e2 ?_
    walk_at "go"
    refine w_isY (cv := .ref A_CellspireError) (.inl rfl) (fun u r => r) e3 ?_
    walk_at "go"
    refine w_isY (cv := .type "ValueError") (.inl rfl) (fun u r => r) e4 ?_
    exact q _ (c14.trans c5)
end
end My
namespace My
open PySem PySem.Spec PyProof.Rows L2
/-! what is put in, gathered by powers -/
theorem setN_e {n : Nat} {c d p : Int} {t : Tm} : (setN n c p t).e = (setN n d p t).e := by
  unfold setN Tm.e
  split
  · rfl
  · split <;> rfl
theorem setN_eta {n : Nat} {c d p : Int} {t : Tm} : (⟨d, (setN n c p t).i, (setN n c p t).j, (setN n c p t).k⟩ : Tm) = setN n d p t := by
  unfold setN
  split
  · rfl
  · split <;> rfl
theorem setN_scale {n : Nat} {c s p : Int} {t : Tm} : (setN n c p t).scale s = setN n (s * c) p t := by
  unfold setN Tm.scale
  split
  · rfl
  · split <;> rfl
def insT (n : Nat) (s : Nat → Int) (ts : List Tm) (M : Nat) : List Tm := (List.range M).flatMap fun k : Nat => (grp n (k : Int) ts).map (Tm.scale (s k))
theorem insT_succ (n : Nat) (s : Nat → Int) (ts : List Tm) (M : Nat) : insT n s ts (M + 1) = insT n s ts M ++ (grp n M ts).map (Tm.scale (s M)) := by
  unfold insT
  rw [List.range_succ, List.flatMap_append]
  simp
theorem insT_len (n : Nat) (s : Nat → Int) (ts : List Tm) (M : Nat) : (insT n s ts M).length ≤ M * ts.length := by
  induction M with
  | zero => simp [insT]
  | succ M ih =>
    rw [insT_succ, List.length_append, List.length_map, Nat.succ_mul]
    have := grp_len n M ts
    omega
theorem filt_split (n : Nat) (M : Int) (g : Tm → Tm) (e : Ex) : ∀ ts : List Tm, cf ((ts.filter fun t => decide (exN n t < M + 1)).map g) e = cf ((ts.filter fun t => decide (exN n t < M)).map g) e + cf ((ts.filter fun t => decide (exN n t = M)).map g) e
  | [] => rfl
  | t :: ts => by
    have ih := filt_split n M g e ts
    by_cases h1 : exN n t < M
    · rw [List.filter_cons_of_pos (by rw [decide_eq_true_eq]; omega), List.filter_cons_of_pos (by rw [decide_eq_true_eq]; omega), List.filter_cons_of_neg (by rw [decide_eq_true_eq]; omega), List.map_cons, List.map_cons, cf_cons, cf_cons, ih]
      omega
    · by_cases h2 : exN n t = M
      · rw [List.filter_cons_of_pos (by rw [decide_eq_true_eq]; omega), List.filter_cons_of_neg (by rw [decide_eq_true_eq]; omega), List.filter_cons_of_pos (by rw [decide_eq_true_eq]; omega), List.map_cons, List.map_cons, cf_cons, cf_cons, ih]
        omega
      · rw [List.filter_cons_of_neg (by rw [decide_eq_true_eq]; omega), List.filter_cons_of_neg (by rw [decide_eq_true_eq]; omega), List.filter_cons_of_neg (by rw [decide_eq_true_eq]; omega), ih]
theorem cf_insT {n : Nat} {s : Nat → Int} {ts : List Tm} (ex : ExpOk ts) (e : Ex) (M : Nat) : cf (insT n s ts M) e = cf ((ts.filter fun t => decide (exN n t < (M : Int))).map fun t => setN n (t.c * s (exN n t).toNat) 0 t) e := by
  induction M with
  | zero =>
    rw [List.filter_eq_nil_iff.mpr]
    · rfl
    · intro t ht
      have := exN_nn (n := n) (ex t ht)
      rw [decide_eq_true_eq]
      omega
  | succ M ih =>
    rw [insT_succ, cf_append, ih, show ((M + 1 : Nat) : Int) = (M : Int) + 1 by omega, filt_split]
    congr 2
    unfold grp
    rw [List.map_map]
    refine List.map_congr_left fun t ht => ?_
    have h := (List.mem_filter.mp ht).2
    rw [decide_eq_true_eq] at h
    show (setN n t.c 0 t).scale (s M) = _
    rw [setN_scale, h, Int.toNat_natCast, Int.mul_comm]
theorem cf_put {n : Nat} {x : Int × Int} {ts : List Tm} (ex : ExpOk ts) (e : Ex) : cf (insT n (fun k => ladV x (mdeg n ts) k) ts (degI n ts + 1).toNat) e = cf (putL n x ts) e := by
  rw [cf_insT ex, List.filter_eq_self.mpr]
  · rfl
  · intro t ht
    have := exN_nn (n := n) (ex t ht)
    have := degI_le (n := n) ht
    rw [decide_eq_true_eq]
    omega
theorem coefs_at {n : Nat} {ts : List Tm} {k : Nat} (h : k < (degI n ts + 1).toNat) : (coefs n ts)[k]? = some (grp n k ts) := by
  unfold coefs
  rw [List.getElem?_map, List.getElem?_range h]
  rfl
theorem coefs_len (n : Nat) (ts : List Tm) : (coefs n ts).length = (degI n ts + 1).toNat := by
  unfold coefs
  rw [List.length_map, List.length_range]
theorem grp_cb {n z : Nat} {j : Int} {ts : List Tm} (h : Cb z ts) : Cb z (grp n j ts) := fun t ht => by
  obtain ⟨u, hu, rfl⟩ := List.mem_map.mp ht
  rw [setN_c]
  exact h u (List.mem_filter.mp hu).1
theorem w_isiLL {K : PySem.W.Frag} {H : Hp} {Q : VK} {a : Addr} {xs : List V} (h : H a = some (.lst xs)) (q : Q (.bl true) H) : rIsi K [.ref a, .ty "list"] H Q := ⟨_, _, _, _, _, rfl, .ty _, .base (.lst h), kit_ty (by decide +kernel), q⟩
section
variable {P : Program} {w : World} {K : PySem.W.Frag} {mg : Str → Option Value} {base : Heap}
abbrev s__law_parts : Stmt := topS 55
theorem sc__law_parts : FnScope ["p", "terms", "at", "a", "name", "due", "degree", "told", "inside", "k", "scale", "slope", "one"] ["p", "terms", "at", "a"] (defScope s__law_parts) := ⟨rfl, rfl, rfl, by decide +kernel, rfl, by decide +kernel, by decide +kernel⟩
def sp__law_parts (K : PySem.W.Frag) (C : Addr) : Sp := fun vs H Q _ => ∃ (p a pt : Addr) (n : Nat) (at_ : Int) (ts : List Tm) (x : Int × Int), vs = [.ref p, .ref a, .int at_, .ref pt] ∧ at_ = (n : Int) + 1 ∧ n < 3 ∧ Po K C H p ts ∧ TmT K H a ts ∧ Fr K H pt x.1 x.2 ∧ Fin0 146 12 ts ∧ ts.length ≤ 17 ∧ x.1.natAbs < 2 ^ 58 ∧ x.2.natAbs < 2 ^ 58 ∧ ∀ H', Ch [] H H' → Q (.bl true) H'
theorem c__law_parts {A_Poly A_InvalidUnknown : Addr} (T : Txt mg) (T_P : PolyK K mg A_Poly)
    (C_P_degree_in : CalMN P w K mg base 4 A_Poly "degree_in" (sp_P_degree_in K A_Poly A_InvalidUnknown)) (C_P_coefficients : CalMN P w K mg base 6 A_Poly "coefficients" (sp_P_coefficients K A_Poly A_InvalidUnknown))
    (C_P_put : CalMN P w K mg base 6 A_Poly "put" (sp_P_put K A_Poly A_InvalidUnknown)) (C_P_slope : CalMN P w K mg base 6 A_Poly "slope" (sp_P_slope K A_Poly A_InvalidUnknown))
    (C__law_coefficients : Cal P w K mg base 2 "_law_coefficients" (sp__law_coefficients K)) (C__law_is_int : Cal P w K mg base 1 "_law_is_int" sp__law_is_int) (C__law_is : Cal P w K mg base 2 "_law_is" (sp__law_is K A_Poly)) (C__law_power : Cal P w K mg base 1 "_law_power" sp__law_power)
    (C__law_gather : Cal P w K mg base 1 "_law_gather" (sp__law_gather K)) (C__law_moved : Cal P w K mg base 1 "_law_moved" (sp__law_moved K)) (C__law_row_of : Cal P w K mg base 6 "_law_row_of" (sp__law_row_of K A_Poly))
    {f : Addr} {fd : FuncData} (F : DefF K mg "_law_parts" s__law_parts ["p", "terms", "at", "a"] f fd) : Cal P w K mg base 8 "_law_parts" (sp__law_parts K A_Poly) := by
  refine cal_of F sc__law_parts (fun vs H Q E h => by obtain ⟨_, _, _, _, _, _, _, rfl, _⟩ := h; rfl) (fun cdv A outer s H vs Q E hr h => ?_)
  obtain ⟨p, a, pt, n, at_, ts, x, rfl, rfl, hn, hp, ha, hpt, fin, lt, hx1, hx2, q⟩ := h
  obtain ⟨xs, hx, hm⟩ := id ha
  have dl : ∀ n, degI n ts ≤ 12 := fun n => degI_le12 fin.i
  have dg := degI_ge n ts
  have dn := dl n
  have big8 : (1000000 : Nat) ≤ sizeLine := by decide
  refine ⟨_, (pss_cons (ps_set (i := 4) sc__law_parts.nd rfl (Or.inl rfl) (pe_ix (k_ixL (K := K) rfl) (pe_lst (pa_cons pe_str (pa_cons pe_str (pa_cons pe_str pa_nil)))) (pe_op op_sub (pv 2) pe_int) (fun _ _ => rfl)))
 (pss_cons (ps_set (i := 5) sc__law_parts.nd rfl (Or.inl rfl) (pe_cc C__law_coefficients hr (by decide) (by rfl) (pa_cons (pv 1) (pa_cons (pv 2) pa_nil))))
 (pss_cons (ps_set (i := 6) sc__law_parts.nd rfl (Or.inl rfl) (pe_mmS T_P.cls C_P_degree_in hr (by decide) noLet (pv 0) (pa_cons (pv 4) pa_nil)))
 (pss_cons (ps_if (PW.pt (pw_or (pt_not (pt_val (pe_cc C__law_is_int hr (by decide) (by rfl) (pa_cons (pv 6) pa_nil)))) (pw_or1 (pt_cmpR op_ne (pv 6) (pe_op op_sub (pe_callB (k_len (K := K) rfl) (by rfl) T.z_len PySem.boot_len (pa_cons (pv 5) pa_nil)) pe_int) (nomark _))))) (pss_one (ps_ret pe_bl)) pss_nil)
 (pss_cons (ps_set (i := 7) sc__law_parts.nd rfl (Or.inl rfl) (pe_mmS T_P.cls C_P_coefficients hr (by decide) noLet (pv 0) (pa_cons (pv 4) pa_nil)))
 (pss_cons (ps_if (PW.pt (pw_or (pt_not (pt_val (pe_callB (k_isi (K := K) rfl) (by rfl) T.z_isinstance (by decide +kernel) (pa_cons (pv 7) (pa_cons (pe_bltn (by rfl) T.z_list (by decide +kernel) (v := .ty "list") rfl) pa_nil))))) (pw_or1 (pt_cmpR op_ne (pe_callB (k_len (K := K) rfl) (by rfl) T.z_len PySem.boot_len (pa_cons (pv 7) pa_nil)) (pe_callB (k_len (K := K) rfl) (by rfl) T.z_len PySem.boot_len (pa_cons (pv 5) pa_nil)) (nomark _))))) (pss_one (ps_ret pe_bl)) pss_nil)
 (pss_cons (ps_set (i := 8) sc__law_parts.nd rfl (Or.inl rfl) (pe_lst pa_nil))
 (pss_cons (ps_for PassesOwn.never rfl (pi_range1 (by rfl) T.z_range (pa_cons (pe_callB (k_len (K := K) rfl) (by rfl) T.z_len PySem.boot_len (pa_cons (pv 5) pa_nil)) pa_nil)) (pg_name (i := 9) sc__law_parts.nd rfl (Or.inl rfl)) (pss_cons (ps_if (pt_not (pt_val (pe_cc C__law_is hr (by decide) (by rfl) (pa_cons (pe_ix (k_ixL (K := K) rfl) (pv 7) (pv 9) (fun _ _ => rfl)) (pa_cons (pe_ix (k_ixL (K := K) rfl) (pv 5) (pv 9) (fun _ _ => rfl)) pa_nil))))) (pss_one (ps_ret pe_bl)) pss_nil)
 (pss_cons (ps_set (i := 10) sc__law_parts.nd rfl (Or.inr rfl) (pe_op op_mulG (pe_cc C__law_power hr (by decide) (by rfl) (pa_cons (pe_ix (k_ixT (K := K) rfl) (pv 3) pe_int (fun _ _ => rfl)) (pa_cons (pv 9) pa_nil))) (pe_cc C__law_power hr (by decide) (by rfl) (pa_cons (pe_ix (k_ixT (K := K) rfl) (pv 3) pe_int (fun _ _ => rfl)) (pa_cons (pe_op op_sub (pe_op op_sub (pe_callB (k_len (K := K) rfl) (by rfl) T.z_len PySem.boot_len (pa_cons (pv 5) pa_nil)) pe_int) (pv 9)) pa_nil)))))
 (pss_one (ps_set (i := 8) sc__law_parts.nd rfl (Or.inl rfl) (pe_op op_cat (pv 8) (pe_lc (own := [("one", 12)]) (g := gName 12) rfl sc__law_parts.nd (k_piT (K := K) rfl (pe_ix (k_ixL (K := K) rfl) (pv 5) (pv 9) (fun _ _ => rfl))) (blkOk_by (own := [("one", 12)]) (N := ["p", "terms", "at", "a", "name", "due", "degree", "told", "inside", "k", "scale", "slope", "one"]) (sc := defScope s__law_parts) (by decide +kernel)) (fun _ _ _ _ _ => pg_name (i := 12) sc__law_parts.nd rfl (Or.inl rfl)) (fun _ _ _ _ _ => pts_nil) (fun _ _ _ _ _ => (pe_op (k_catT (K := K) rfl) (pe_tup (pa_cons (pe_op op_mulG (pv 10) (pe_ix (k_ixT (K := K) rfl) (pv 12) pe_int (fun _ _ => rfl))) pa_nil)) (pe_slice (k_slT (K := K) rfl) (pv 12) (po_some pe_int) po_none))))))))))
 (pss_cons (ps_if (pt_not (pt_val (pe_cc C__law_is hr (by decide) (by rfl) (pa_cons (pe_mmS T_P.cls C_P_put hr (by decide) noLet (pv 0) (pa_cons (pv 4) (pa_cons (pv 3) pa_nil))) (pa_cons (pe_cc C__law_gather hr (by decide) (by rfl) (pa_cons (pv 8) pa_nil)) pa_nil))))) (pss_one (ps_ret pe_bl)) pss_nil)
 (pss_cons (ps_setLc (i := 11) (own := [("one", 12)]) (g := gName 12) rfl sc__law_parts.nd rfl rfl (sw_true rfl rfl rfl (by decide +kernel)) (k_piT (K := K) rfl (pv 1)) (blkOk_by (own := [("one", 12)]) (N := ["p", "terms", "at", "a", "name", "due", "degree", "told", "inside", "k", "scale", "slope", "one"]) (sc := defScope s__law_parts) (by decide +kernel)) (fun _ _ _ _ _ => pg_name (i := 12) sc__law_parts.nd rfl (Or.inl rfl)) (fun _ _ _ _ _ => pts_nil) (fun _ _ _ _ _ => (pe_op (k_catT (K := K) rfl) (pe_tup (pa_cons (pe_op op_mulG (pe_ix (k_ixT (K := K) rfl) (pv 12) pe_int (fun _ _ => rfl)) (pe_ix (k_ixT (K := K) rfl) (pv 12) (pv 2) (fun _ _ => rfl))) pa_nil)) (pe_slice (k_slT (K := K) rfl) (pe_cc C__law_moved hr (by decide) (by rfl) (pa_cons (pv 12) (pa_cons (pv 2) (pa_cons (pe_callB (cb_max2 rfl) (by rfl) T.z_max (by decide +kernel) (pa_cons pe_int (pa_cons (pe_op op_sub (pe_ix (k_ixT (K := K) rfl) (pv 12) (pv 2) (fun _ _ => rfl)) pe_int) pa_nil))) pa_nil)))) (po_some pe_int) po_none))))
 (pss_cons (ps_if (pt_not (pt_val (pe_cc C__law_is hr (by decide) (by rfl) (pa_cons (pe_mmS T_P.cls C_P_slope hr (by decide) noLet (pv 0) (pa_cons (pv 4) pa_nil)) (pa_cons (pe_cc C__law_gather hr (by decide) (by rfl) (pa_cons (pv 11) pa_nil)) pa_nil))))) (pss_one (ps_ret pe_bl)) pss_nil)
 (pss_cons (ps_expr (pe_bm PySem.F.plainAttrs_list PySem.F.slot_list_append PySem.F.type_list_append mt_append (pv 7) (pa_cons (pv 0) pa_nil)))
 (pss_one (ps_ret (pe_and (pe_cmpR op_eq (pe_callB (k_len (K := K) rfl) (by rfl) T.z_len PySem.boot_len (pa_cons (pe_mmS T_P.cls C_P_coefficients hr (by decide) noLet (pv 0) (pa_cons (pv 4) pa_nil)) pa_nil)) (pe_callB (k_len (K := K) rfl) (by rfl) T.z_len PySem.boot_len (pa_cons (pv 5) pa_nil)) (nomark _)) (pe_one (pe_cc C__law_row_of hr (by decide) (by rfl) (pa_cons (pv 0) (pa_cons (pv 1) (pa_cons (pv 2) pa_nil)))))))))))))))))))), ?_⟩
  refine w_start (σ := [some _, some _, some _, some _, none, none, none, none, none, none, none, none, none]) rfl ?_
  walk_at "go"
  refine w_newL (show 3 ≤ sizeLine by decide) fun l3 H1 n1 c1 h1 => ?_
  walk_at "go"
  refine w_ixL (.of h1) (xyz_at hn (by omega)) ?_
  walk_at "go"
  refine ⟨a, n, _, ts, rfl, rfl, hn, ha.ch c1, fin.nf, by omega, by omega, fun du dus H2 nd c2 hdu edu => ?_⟩
  have c12 := c1.trans c2
  have ndu := c1.free nd
  have ldu := edu.len
  rw [coefs_len] at ldu
  walk_at "go"
  refine rmeP (hp.ch c12) (fun _ => rfl) ?_
  walk_at "go"
  refine ⟨p, usN n, ts, rfl, hp.ch c12, by omega, .inl ⟨n, hn, rfl, fun H3 c3 => ?_⟩⟩
  have c13 := c12.trans c3
  have hdu := c3.at0 hdu
  have edu := edu.imp fun _ _ _ h => h.ch c3
  walk_at "go"
  refine ⟨_, rfl, ?_⟩
  walk_at "go"
  rw [ldu]
  refine ite_ndf (by omega) ?_
  walk_at "go"
  refine rmeP (hp.ch c13) (fun _ => rfl) ?_
  walk_at "go"
  refine ⟨p, usN n, ts, rfl, hp.ch c13, by omega, fin.e, fun n => by have := dl n; omega, .inl ⟨n, hn, rfl, fun to H4 tos nto c4 hto eto => ?_⟩⟩
  have c14 := c13.trans c4
  have neD : du ≠ to := ne_of_none hdu nto
  have nto := c13.free nto
  have hdu := c4.at0 hdu
  have edu := edu.imp fun _ _ _ h => h.ch c4
  have lto := eto.len
  rw [coefs_len] at lto
  walk_at "go"
  refine w_isiLL hto ?_
  walk_at "go"
  rw [ldu, lto]
  refine ite_ndf rfl ?_
  walk_at "go"
  refine w_newL (show 0 ≤ sizeLine by decide) fun l0 H5 n5 c5 h5 => ?_
  have c15 := c14.trans c5
  have hdu := c5.at0 hdu
  have edu := edu.imp fun _ _ _ h => h.ch c5
  have hto := c5.at0 hto
  have eto : Els (PoE K A_Poly) H5 tos (coefs n ts) := eto.imp fun us v _ h => by obtain ⟨p, e, h⟩ := h; exact ⟨p, e, h.ch c5⟩
  walk_at "go"
  rw [ldu]
  refine w_iR1r (by omega) (by omega) ?_
  refine for_R (n := (degI n ts + 1).toNat) (fun i σ H' => Ch [] H5 H' ∧ ∃ l0, TmL K H' l0 (insT n (fun k => ladV x (mdeg n ts) k) ts i) ∧ ∃ z1 z2 z3 z4, σ = [some (.ref p), some (.ref a), some (.int ((n : Int) + 1)), some (.ref pt), some (.str (usN n)), some (.ref du), some (.int (degI n ts)), some (.ref to), some (.ref l0), z1, z2, z3, z4])
    ⟨.refl, l0, ⟨[], h5, Els.nil⟩, _, _, _, _, rfl⟩ ?_ ?_
  · rintro i σ H6 hi ⟨c, l0, hl0, z1, z2, z3, z4, rfl⟩
    obtain ⟨v1, g1, pk, rfl, hpk⟩ := eto.at_ i _ (coefs_at hi)
    obtain ⟨v2, g2, dk, rfl, hdk⟩ := edu.at_ i _ (coefs_at hi)
    have hdk := hdk.ch c
    have hpk := hpk.ch c
    have gl := grp_len n i ts
    walk_at "go"
    refine w_ixL (.of (c.at0 hto)) (atI_at (k := i) (by omega) g1) ?_
    walk_at "go"
    refine w_ixL (.of (c.at0 hdu)) (atI_at (k := i) (by omega) g2) ?_
    walk_at "go"
    refine ⟨pk, dk, _, rfl, hpk, hdk, by omega, fun H7 c7 => ?_⟩
    refine ⟨_, rfl, ?_⟩
    have hpt7 := (c15.trans (c.trans c7)).sqT hpt
    have hdk := hdk.ch c7
    walk_at "go"
    refine ⟨_, _, 58, rfl, hx1, by decide, by omega, by omega, ?_⟩
    walk_at "go"
    refine w_lenL (.of ((c.trans c7).at0 hdu)) ?_
    walk_at "go"
    rw [ldu]
    refine ⟨_, _, 58, rfl, hx2, by decide, by omega, by omega, ?_⟩
    have eM : ((((degI n ts + 1).toNat : Nat) : Int) - 1 - (0 + (i : Int))).toNat = mdeg n ts - i := by unfold mdeg; omega
    rw [eM, show (0 + (i : Int)).toNat = i by omega]
    have b1 := abs_pow_lt (s := i) hx1
    have b2 := abs_pow_lt (s := mdeg n ts - i) hx2
    have m12 : mdeg n ts ≤ 12 := by unfold mdeg; omega
    walk_at "go"
    refine w_I (mul_ok b1 b2 (by omega)) ?_
    have b12 := mulb b1 b2
    have esc : x.1 ^ i * x.2 ^ (mdeg n ts - i) = ladV x (mdeg n ts) i := rfl
    rw [esc] at b12 ⊢
    walk_at "go"
    refine w_ixL (.of ((c.trans c7).at0 hdu)) (atI_at (k := i) (by omega) g2) ?_
    obtain ⟨ys, hy, hym⟩ := hdk
    walk_at "go"
    refine lc_e (grp n i ts) (walk_tup (K := K) (a := dk) (xs := ys)) hym.len.symm (fun _ => true) (fun t v H => Tme K (t.scale (ladV x (mdeg n ts) i)) v H) (fun _ _ _ _ _ c h => h.ch c) (fun H' c => c.sqT hy) (by rw [hym.len]; omega) ?_ ?_
    · rintro k t x0 H8 H9 ht c9 ⟨rfl, hx⟩ Nx A1 hN hA
      obtain ⟨v, e1, b1, rfl, hb1⟩ := hym.at_ k t ht
      rw [hx] at e1
      cases e1
      have hb1 := c9.sqT hb1
      walk_at "go"
      refine ⟨rfl, ?_⟩
      walk_at "go"
      refine w_I (mul_ok b12 (grp_cb fin.c t (List.mem_of_getElem? ht)) (by omega)) ?_
      walk_at "go"
      refine w_newT (show 1 ≤ sizeLine by decide) fun b3 H8 n8 c8 h8 => ?_
      have hb1 := c8.sqT hb1
      walk_at "go"
      refine w_slTn hb1 (fun z => absurd z.1 (show ¬ HT.sIx 4 0 (some 1) = 0 by decide)) fun b2 H10 n10 c10 h10 => ?_
      have h10 : H10 b2 = some (.tup [.int t.i, .int t.j, .int t.k]) := by rw [h10, cutV_from (i := 1) (k := 1) rfl]; rfl
      refine w_catA (c10.sqT (.of h8)) (.of h10) (show 4 ≤ sizeLine by decide) fun b4 H11 c11 h11 => ?_
      exact hA _ H11 (c8.trans (c10.trans c11)) rfl ⟨b4, rfl, h11⟩
    · intro D H8 out nD c8 hD el
      rw [filter_yes] at el
      have em := el.map (F := Tme K) (f := Tm.scale (ladV x (mdeg n ts) i)) fun _ _ _ h => h
      have c78 := c7.trans c8
      obtain ⟨ws, hw, hwm⟩ := hl0.ch0 c78
      have il := insT_len n (fun k => ladV x (mdeg n ts) k) ts i
      have i12 : i * ts.length ≤ 13 * 17 := Nat.mul_le_mul (by omega) lt
      refine w_cat hw hD (by rw [hwm.len, el.len]; omega) fun l1 H9 n9 c9 h9 => ?_
      refine ⟨c.trans (c78.trans c9), l1, ⟨_, h9, ?_⟩, _, _, _, _, rfl⟩
      rw [insT_succ]
      exact (hwm.chm c9).app (em.chm c9)
  rintro σ H6 ⟨c6, l0, hl0, z1, z2, z3, z4, rfl⟩
  have hto := c6.at0 hto
  have hdu := c6.at0 hdu
  have c16 := c15.trans c6
  clear c1 c2 c12 c13 c3 c4 c14 c5 c15 c6 eto edu
  have il := insT_len n (fun k => ladV x (mdeg n ts) k) ts (degI n ts + 1).toNat
  have i12 : (degI n ts + 1).toNat * ts.length ≤ 13 * 17 := Nat.mul_le_mul (by omega) lt
  walk_at "go"
  refine rmeP (hp.ch c16) (fun _ => rfl) ?_
  walk_at "go"
  refine ⟨p, pt, usN n, ts, x, 58, 146, rfl, hp.ch c16, by omega, fin.e, c16.sqT hpt, hx1, hx2, by decide, fun n _ => by have := dl n; omega, fin.c, by decide, .inl ⟨n, hn, rfl, fun r H7 us nfu cu c7 hr7 => ?_⟩⟩
  have c17 := c16.trans c7
  walk_at "go"
  refine ⟨l0, _, rfl, hl0.ch0 c7, by omega, fun t8 H8 ws nfw cw c8 ht8 _ => ?_⟩
  obtain rfl := nfu.eq nfw fun e => by rw [cu, cw, cf_put fin.e]
  have c18 := c17.trans c8
  have lus : us.length ≤ 17 := by
    have := nfu.len_le cu
    unfold putL at this
    rw [List.length_map] at this
    omega
  walk_at "go"
  refine ⟨r, t8, us, rfl, hr7.ch c8, ht8, by omega, fun H9 c9 => ?_⟩
  refine ⟨_, rfl, ?_⟩
  have c19 := c18.trans c9
  have hto := (c7.trans (c8.trans c9)).at0 hto
  have hdu := (c7.trans (c8.trans c9)).at0 hdu
  clear c7 c8 c9 c18 c17 c16 hr7 ht8
  walk_at "go"
  refine lc_e ts (walk_tup (K := K) (a := a) (xs := xs)) hm.len.symm (fun _ => true) (fun t v H => Tme K (setN n (t.c * exN n t) (max 0 (exN n t - 1)) t) v H) (fun _ _ _ _ _ c h => h.ch c) (fun H' c => (c19.trans c).sqT hx) (by rw [hm.len]; omega) ?st ?_
  case st =>
    rintro k t x0 H8 H9 ht c9 ⟨rfl, hx⟩ Nx A1 hN hA
    obtain ⟨v, e1, b1, rfl, hb1⟩ := hm.at_ k t ht
    rw [hx] at e1
    cases e1
    have hb1 := (c19.trans c9).sqT hb1
    have ee := degI_le (n := n) (List.mem_of_getElem? ht)
    have e0 := exN_nn (n := n) (fin.e t (List.mem_of_getElem? ht))
    walk_at "go"
    refine ⟨rfl, ?_⟩
    walk_at "go"
    refine w_ixT hb1 (exAt hn t) ?_
    walk_at "go"
    refine w_I (mul_ok_r (by omega)) ?_
    walk_at "go"
    refine w_newT (show 1 ≤ sizeLine by decide) fun b3 H10 n10 c10 h10 => ?_
    have hb1 := c10.sqT hb1
    walk_at "go"
    refine w_ixT hb1 (exAt hn t) ?_
    walk_at "go"
    have emx : (if exN n t - 1 > 0 then exN n t - 1 else 0) = max 0 (exN n t - 1) := by split <;> omega
    rw [emx]
    refine ⟨_, n, _, _, t, rfl, rfl, hn, hb1, fun b4 u H11 eu c11 h11 => ?_⟩
    walk_at "go"
    refine w_slTn h11 (fun z => absurd z.1 (show ¬ HT.sIx 4 0 (some 1) = 0 by decide)) fun b2 H12 n12 c12 h12 => ?_
    have h12 : H12 b2 = some (.tup [.int u.i, .int u.j, .int u.k]) := by rw [h12, cutV_from (i := 1) (k := 1) rfl]; rfl
    refine w_catA ((c11.trans c12).sqT (.of h10)) (.of h12) (show 4 ≤ sizeLine by decide) fun b5 H13 c13 h13 => ?_
    refine hA _ H13 (c10.trans (c11.trans (c12.trans c13))) rfl ⟨b5, rfl, ?_⟩
    have eu2 : setN n (t.c * exN n t) (max 0 (exN n t - 1)) t = ⟨t.c * exN n t, u.i, u.j, u.k⟩ := by rw [eu, setN_eta]
    rw [eu2]
    exact h13
  intro sl H10 out nD c10 hsl el
  rw [filter_yes] at el
  have em := el.map (F := Tme K) (f := fun t : Tm => setN n (t.c * exN n t) (max 0 (exN n t - 1)) t) fun _ _ _ h => h
  have c20 := c19.trans c10
  have hto := c10.at0 hto
  have hdu := c10.at0 hdu
  clear c19 c10 el
  walk_at "go"
  refine rmeP (hp.ch c20) (fun _ => rfl) ?_
  walk_at "go"
  refine ⟨p, usN n, ts, rfl, hp.ch c20, by omega, fun n _ => by have := dl n; omega, .inl ⟨n, hn, rfl, fun r2 H11 c11 hr2 => ?_⟩⟩
  have c21 := c20.trans c11
  walk_at "go"
  refine ⟨sl, _, rfl, ⟨out, c11.at0 hsl, em.chm c11⟩, by rw [List.length_map]; omega, fun t9 H12 ws nfw cw c12 ht9 _ => ?_⟩
  obtain rfl := (nf_slp (n := n) fin.nf).eq nfw fun e => by
    rw [cw]
    rcases cf_slp_filter (n := n) ts e with h | h
    · exact h.symm
    · exact absurd fin.e h
  have lsl : (slpL n ts).length ≤ 17 := by
    unfold slpL
    rw [List.length_map]
    have := List.length_filter_le (fun t => decide (0 < exN n t)) ts
    omega
  walk_at "go"
  refine ⟨r2, t9, _, rfl, hr2.ch c12, ht9, by omega, fun H13 c13 => ?_⟩
  refine ⟨_, rfl, ?_⟩
  have c23 := c21.trans (c12.trans c13)
  have hto := (c11.trans (c12.trans c13)).at0 hto
  have hdu := (c11.trans (c12.trans c13)).at0 hdu
  walk_at "go"
  refine ⟨.inl ⟨rfl, _, .of hto⟩, ?_⟩
  walk_at "go"
  refine w_append hto (by omega) fun H14 c14 h14 => ?_
  have c24 := c23.cut nto c14
  have hdu := c14.at1 neD hdu
  walk_at "go"
  refine rmeP (hp.ch c24) (fun _ => rfl) ?_
  walk_at "go"
  refine ⟨p, usN n, ts, rfl, hp.ch c24, by omega, fin.e, fun n => by have := dl n; omega, .inl ⟨n, hn, rfl, fun to2 H15 tos2 nto2 c15 hto2 eto2 => ?_⟩⟩
  have lto2 := eto2.len
  rw [coefs_len] at lto2
  have hdu := c15.at0 hdu
  walk_at "go"
  rw [lto2, ldu, decide_eq_true rfl]
  refine ⟨_, rfl, ?_⟩
  walk_at "go"
  have c25 := c24.trans c15
  exact ⟨p, a, n, _, ts, rfl, rfl, hn, hp.ch c25, ha.ch c25, fin.e, by omega, fun n _ => by have := dl n; omega, fun H16 c16 => q H16 (c25.trans c16)⟩
end
end My
namespace My
open PySem PySem.Spec PyProof.Rows L2
/-- [e for x in range(..)], each e drawn from the box -/
theorem lc_box {σ : L2.St} {H : Hp} {Q : VK} {te : TE} {vs : List Nat} {n i : Nat} {lo : Int} {b c : Addr} (Pr : V → Prop) (hv : vs = [i]) (hn : n < 100000) (B : Box H b c)
    (hs : ∀ k H1, k < n → Ch [b] H H1 → Box H1 b c → ∀ S : VK, (∀ (z : V) H3, Ch [b] H1 H3 → Box H3 b c → Pr z → S z H3) → te ((wipe σ [i]).set i (some (.int (lo + (k : Int))))) H1 S)
    (hd : ∀ D H' (ns : List V), H D = none → Ch [b] H H' → Box H' b c → ns.length = n → (∀ v ∈ ns, Pr v) → H' D = some (.lst ns) → Q (.ref D) H') : LcG (Itr lo n) (gName i) tYes te vs σ H Q := by
  subst hv
  intro D hD
  obtain ⟨nb, nc⟩ := B.ne hD
  refine lc_it (walk_range (lo := lo) (n := n)) (fun k H' => Ch [b] H H' ∧ Box H' b c ∧ ∃ ns : List V, ns.length = k ∧ (∀ v ∈ ns, Pr v) ∧ H' D = some (.lst ns)) ⟨(Ch.new hD).of0, B.mono (Ch.new hD), [], rfl, fun _ h => (nomatch h), by rw [upd_same]⟩ (fun _ _ _ _ => trivial) ?_ (fun H' hp => ?_)
  · rintro k x H1 H2 hk ⟨c1, B1, ns, ln, pr, e1⟩ y
    obtain ⟨y1, y2⟩ := y
    subst y1 y2
    refine ⟨wipe1, ?_⟩
    show te _ _ _
    refine hs k H2 hk c1 B1 _ fun z H3 c3 B3 pz => ?_
    have e3 := c3.at1 nb.symm e1
    refine ⟨_, e3, sz_lt (by omega), ?_, ?_, ns ++ [z], by rw [List.length_append, ln]; rfl, fun v m => (List.mem_append.mp m).elim (pr v) fun m => by rw [List.mem_singleton.mp m]; exact pz, by rw [upd_same]⟩
    · exact Ch.cut (c1.trans c3) hD (Ch.set e3)
    · exact B3.mono1 (Ch.set e3) nb nc
  · obtain ⟨cc, B', ns, ln, pr, e⟩ := hp
    exact hd D H' ns hD cc B' ln pr e
/-! a row and its polynomial -/
abbrev Z4 : Tm := ⟨0, 0, 0, 0⟩
theorem exN_set {n : Nat} {c p : Int} {t : Tm} : exN n (setN n c p t) = p := by
  unfold exN setN
  by_cases h0 : n = 0
  · rw [if_pos h0, if_pos h0]
  · by_cases h1 : n = 1
    · rw [if_neg h0, if_pos h1, if_neg h0, if_pos h1]
    · rw [if_neg h0, if_neg h1, if_neg h0, if_neg h1]
theorem exN_e {n : Nat} {t u : Tm} (h : t.e = u.e) : exN n t = exN n u := by
  have e1 := congrArg (·.1) h
  have e2 := congrArg (·.2.1) h
  have e3 := congrArg (·.2.2) h
  simp only [Tm.e] at e1 e2 e3
  unfold exN
  rw [e1, e2, e3]
theorem sum_set {n : Nat} {c p : Int} : (setN n c p Z4).i + (setN n c p Z4).j + (setN n c p Z4).k = p := by
  unfold setN
  split
  · show p + 0 + 0 = p
    omega
  · split
    · show 0 + p + 0 = p
      omega
    · show 0 + 0 + p = p
      omega
theorem cf_row (n : Nat) (g : Nat → Int) (j M : Nat) : cf ((List.range M).map fun k => setN n (g k) (k : Int) Z4) (setN n 1 (j : Int) Z4).e = if j < M then g j else 0 := by
  induction M with
  | zero => rfl
  | succ M ih =>
    rw [List.range_succ, List.map_append, cf_append, ih, List.map_cons, List.map_nil, cf_cons, cf_nil, setN_c]
    by_cases h : M = j
    · subst h
      rw [if_pos setN_e, if_neg (by omega), if_pos (by omega)]
      omega
    · have hne : ¬ (setN n (g M) (M : Int) Z4).e = (setN n 1 (j : Int) Z4).e := fun e => h (by have := exN_e (n := n) e; rw [exN_set, exN_set] at this; omega)
      rw [if_neg hne]
      by_cases hl : j < M
      · rw [if_pos hl, if_pos (by omega)]
        omega
      · rw [if_neg hl, if_neg (by omega)]
        omega
structure OfRow (n : Nat) (r : List Int) (us : List Tm) : Prop where
  nf : Nf us
  eq : ∀ e, cf us e = cf (rowT n r) e
theorem OfRow.shape {n : Nat} {r : List Int} {us : List Tm} (h : OfRow n r us) {u : Tm} (m : u ∈ us) : ∃ k, k < r.length ∧ u.e = (setN n 1 (k : Int) Z4).e ∧ u.c = r.getD k 0 := by
  obtain ⟨t, mt, e⟩ := h.nf.mem_of h.eq m
  unfold rowT at mt
  obtain ⟨k, hk, rfl⟩ := List.mem_map.mp mt
  rw [List.mem_range] at hk
  have e2 : u.e = (setN n 1 (k : Int) Z4).e := e.symm.trans setN_e
  refine ⟨k, hk, e2, ?_⟩
  have := (h.nf.mem.mp m).2
  rw [← this, h.eq, e2]
  have := cf_row n (fun k => r.getD k 0) k r.length
  rw [if_pos hk] at this
  exact this
theorem OfRow.has {n : Nat} {r : List Int} {us : List Tm} (h : OfRow n r us) {k : Nat} (hk : k < r.length) (h0 : r.getD k 0 ≠ 0) : setN n (r.getD k 0) (k : Int) Z4 ∈ us := by
  refine h.nf.mem.mpr ⟨by rw [setN_c]; exact h0, ?_⟩
  rw [setN_c, h.eq, setN_e (d := 1)]
  have := cf_row n (fun k => r.getD k 0) k r.length
  rw [if_pos hk] at this
  exact this
theorem OfRow.ex {n : Nat} {r : List Int} {us : List Tm} (h : OfRow n r us) : ExpOk us := by
  refine nf_exp h.nf h.eq fun t mt => ?_
  unfold rowT at mt
  obtain ⟨k, hk, rfl⟩ := List.mem_map.mp mt
  unfold setN
  split
  · exact ⟨by show (0 : Int) ≤ (k : Int); omega, Int.le_refl _, Int.le_refl _⟩
  · split
    · exact ⟨Int.le_refl _, by show (0 : Int) ≤ (k : Int); omega, Int.le_refl _⟩
    · exact ⟨Int.le_refl _, Int.le_refl _, by show (0 : Int) ≤ (k : Int); omega⟩
theorem OfRow.exle {n : Nat} {r : List Int} {us : List Tm} (h : OfRow n r us) (m : Nat) : degI m us ≤ r.length := by
  rcases degI_mem m us with e | ⟨u, mu, e⟩
  · omega
  · obtain ⟨k, hk, eu, _⟩ := h.shape mu
    rw [e, exN_e eu]
    unfold exN setN
    split <;> split <;> (try split) <;> (try split) <;> dsimp only <;> omega
theorem OfRow.alone {n : Nat} {r : List Int} {us : List Tm} (h : OfRow n r us) : Alone n us := fun u mu => by
  obtain ⟨k, hk, e, _⟩ := h.shape mu
  have e1 := congrArg (·.1) e
  have e2 := congrArg (·.2.1) e
  have e3 := congrArg (·.2.2) e
  simp only [Tm.e] at e1 e2 e3
  rw [exN_e e, exN_set, e1, e2, e3, sum_set]
theorem OfRow.deg {n : Nat} {r : List Int} {us : List Tm} (h : OfRow n r us) (hr : r = [] ∨ r.getD (r.length - 1) 0 ≠ 0) : degI n us = (r.length : Int) - 1 := by
  have up : degI n us ≤ (r.length : Int) - 1 := by
    rcases degI_mem n us with e | ⟨u, mu, e⟩
    · rw [e]; omega
    · obtain ⟨k, hk, eu, _⟩ := h.shape mu
      rw [e, exN_e eu, exN_set]
      omega
  rcases hr with rfl | hr
  · have := degI_ge n us
    simp only [List.length_nil] at up ⊢
    omega
  · by_cases z : r.length = 0
    · have := degI_ge n us
      omega
    · have := degI_le (n := n) (h.has (k := r.length - 1) (by omega) hr)
      rw [exN_set] at this
      omega
theorem rowA_at {n : Nat} : ∀ {ts : List Tm} {r : List Int} {t : Tm} {j : Nat}, (∀ t ∈ ts, 0 ≤ exN n t) → ts.Pairwise (fun t u => exN n t ≠ exN n u) → t ∈ ts → exN n t = (j : Int) → j < r.length → (rowA n r ts)[j]? = some t.c
  | [], _, _, _, _, _, m, _, _ => nomatch m
  | u :: ts, r, t, j, h0, hp, m, e, hj => by
    have hp' := List.pairwise_cons.mp hp
    have off : ∀ {ts : List Tm} {r : List Int}, (∀ t ∈ ts, 0 ≤ exN n t) → (∀ t ∈ ts, exN n t ≠ (j : Int)) → (rowA n r ts)[j]? = r[j]? := by
      intro ts
      induction ts with
      | nil => intro r _ _; rfl
      | cons v vs ih =>
        intro r g1 g2
        show (rowA n (r.set (exN n v).toNat v.c) vs)[j]? = _
        rw [ih (fun t m => g1 t (List.mem_cons_of_mem _ m)) (fun t m => g2 t (List.mem_cons_of_mem _ m)), List.getElem?_set_ne]
        have := g1 v List.mem_cons_self
        have := g2 v List.mem_cons_self
        omega
    show (rowA n (r.set (exN n u).toNat u.c) ts)[j]? = _
    rcases List.mem_cons.mp m with rfl | m
    · rw [off (fun t m => h0 t (List.mem_cons_of_mem _ m)) (fun v mv => by have := hp'.1 v mv; omega), e, Int.toNat_natCast, List.getElem?_set_self hj]
    · exact rowA_at (fun t m => h0 t (List.mem_cons_of_mem _ m)) hp'.2 m e (by rw [List.length_set]; exact hj)
theorem rowA_off {n : Nat} {j : Nat} : ∀ {ts : List Tm} {r : List Int}, (∀ t ∈ ts, 0 ≤ exN n t) → (∀ t ∈ ts, exN n t ≠ (j : Int)) → (rowA n r ts)[j]? = r[j]? := by
  intro ts
  induction ts with
  | nil => intro r _ _; rfl
  | cons v vs ih =>
    intro r g1 g2
    show (rowA n (r.set (exN n v).toNat v.c) vs)[j]? = _
    rw [ih (fun t m => g1 t (List.mem_cons_of_mem _ m)) (fun t m => g2 t (List.mem_cons_of_mem _ m)), List.getElem?_set_ne]
    have := g1 v List.mem_cons_self
    have := g2 v List.mem_cons_self
    omega
theorem OfRow.row {n : Nat} {r : List Int} {us : List Tm} (h : OfRow n r us) (hr : r = [] ∨ r.getD (r.length - 1) 0 ≠ 0) : rowL n us = r := by
  have dg := h.deg hr
  have x0 : ∀ t ∈ us, 0 ≤ exN n t := fun t m => exN_nn (h.ex t m)
  have pw : us.Pairwise fun t u => exN n t ≠ exN n u := by
    refine List.Pairwise.imp_of_mem ?_ h.nf.distinct
    intro t u mt mu ne e
    obtain ⟨k, hk, ek, _⟩ := h.shape mt
    obtain ⟨j, hj, ej, _⟩ := h.shape mu
    refine ne ?_
    rw [ek, ej]
    have a := exN_e (n := n) ek
    have b := exN_e (n := n) ej
    rw [exN_set] at a b
    have : k = j := by omega
    rw [this]
  show rowA n (List.replicate (degI n us + 1).toNat 0) us = r
  rw [dg, show ((r.length : Int) - 1 + 1).toNat = r.length by omega]
  refine List.ext_getElem? fun j => ?_
  by_cases hj : j < r.length
  · have gj : r[j]? = some (r.getD j 0) := by rw [List.getD_eq_getElem?_getD, List.getElem?_eq_getElem hj]; rfl
    rw [gj]
    by_cases z : r.getD j 0 = 0
    · rw [rowA_off x0, z, List.getElem?_replicate, if_pos hj]
      intro t m e
      obtain ⟨k, hk, ek, ec⟩ := h.shape m
      have a := exN_e (n := n) ek
      rw [exN_set] at a
      have : k = j := by omega
      subst this
      exact h.nf.nz t m (by rw [ec, z])
    · have := rowA_at (r := List.replicate r.length 0) x0 pw (h.has hj z) exN_set (by rw [List.length_replicate]; exact hj)
      rw [setN_c] at this
      exact this
  · rw [List.getElem?_eq_none (by rw [rowA_len, List.length_replicate]; omega), List.getElem?_eq_none (by omega)]
end My
namespace My
open PySem PySem.Spec PyProof.Rows L2
theorem ints_of : ∀ {out : List V}, (∀ v ∈ out, ∃ z : Int, v = .int z) → ∃ ns : List Int, out = ivs ns ∧ ns.length = out.length
  | [], _ => ⟨[], rfl, rfl⟩
  | v :: out, h => by
    obtain ⟨z, e⟩ := h v List.mem_cons_self
    obtain ⟨ns, e2, l⟩ := ints_of fun u m => h u (List.mem_cons_of_mem _ m)
    exact ⟨z :: ns, by rw [e, e2]; rfl, by rw [List.length_cons, List.length_cons, l]⟩
theorem nf_one {t : Tm} (h : t.c ≠ 0) : Nf [t] := ⟨fun u m => by rw [List.mem_singleton.mp m]; exact h, List.pairwise_singleton _ _⟩
theorem nf_zero {us : List Tm} {e : Ex} (h : ∀ e, cf us e = cf [⟨0, 0, 0, 0⟩] e) (n : Nf us) : us = [] := n.eq .nil fun e => by
  rw [h, cf_cons]
  split <;> rfl
theorem set1 {n : Nat} : setN n 1 1 ⟨1, 0, 0, 0⟩ = setN n 1 1 ⟨0, 0, 0, 0⟩ := by
  unfold setN
  split
  · rfl
  · split <;> rfl
theorem setz {n : Nat} {x c p : Int} : setN n c p ⟨x, 0, 0, 0⟩ = setN n c p Z4 := by
  unfold setN
  split
  · rfl
  · split <;> rfl
section
variable {P : Program} {w : World} {K : PySem.W.Frag} {mg : Str → Option Value} {base : Heap}
abbrev s__law_simple : Stmt := topS 56
theorem sc__law_simple : FnScope ["box", "great", "n", "numbers", "row", "at", "name", "due", "told", "k"] ["box", "great"] (defScope s__law_simple) := ⟨rfl, rfl, rfl, by decide +kernel, rfl, by decide +kernel, by decide +kernel⟩
def sp__law_simple (K : PySem.W.Frag) : Sp := fun vs H Q _ => ∃ (b c : Addr) (g : Nat), vs = [.ref b, .int g] ∧ Box H b c ∧ g ≤ 5 ∧ ∀ H', Ch [b] H H' → Box H' b c → Q (.bl true) H'
theorem c__law_simple {A_Poly A_InvalidPoly A_InvalidUnknown A_NotOneUnknown A_e : Addr} (T : Txt mg) (T_P : PolyK K mg A_Poly) (UE : ∀ H, SqT K H A_e []) (CI : CalI P w K mg base 3 "Poly" A_Poly [.ref A_e] (sp_P_init K A_Poly A_InvalidPoly))
    (C_P_constant : CalSN P w K mg base 5 A_Poly "constant" (sp_P_constant K A_Poly)) (C_P_of_unknown : CalSN P w K mg base 5 A_Poly "of_unknown" (sp_P_of_unknown K A_Poly A_InvalidUnknown)) (C_P_of_row : CalSN P w K mg base 5 A_Poly "of_row" (sp_P_of_row K A_Poly A_InvalidUnknown))
    (C_P_as_row : CalMN P w K mg base 5 A_Poly "as_row" (sp_P_as_row K A_Poly A_InvalidUnknown A_NotOneUnknown))
    (C__law_draw : Cal P w K mg base 2 "_law_draw" sp__law_draw) (C__law_number : Cal P w K mg base 3 "_law_number" sp__law_number) (C__law_gather : Cal P w K mg base 1 "_law_gather" (sp__law_gather K)) (C__law_is : Cal P w K mg base 2 "_law_is" (sp__law_is K A_Poly))
    (C__law_moved : Cal P w K mg base 1 "_law_moved" (sp__law_moved K)) (C__law_row_of : Cal P w K mg base 6 "_law_row_of" (sp__law_row_of K A_Poly)) (C__law_same : Cal P w K mg base 2 "_law_same" (sp__law_same K))
    {f : Addr} {fd : FuncData} (F : DefF K mg "_law_simple" s__law_simple ["box", "great"] f fd) : Cal P w K mg base 8 "_law_simple" (sp__law_simple K) := by
  refine cal_of F sc__law_simple (fun vs H Q E h => by obtain ⟨_, _, _, rfl, _⟩ := h; rfl) (fun cdv A outer s H vs Q E hr h => ?_)
  obtain ⟨b, c, g, rfl, B, hg, q⟩ := h
  refine ⟨_, (pss_cons (ps_set (i := 2) sc__law_simple.nd rfl (Or.inl rfl) (pe_cc C__law_number hr (by decide) (by rfl) (pa_cons (pv 0) (pa_cons (pv 1) pa_nil))))
 (pss_cons (ps_if (pt_not (pt_val (pe_cc C__law_is hr (by decide) (by rfl) (pa_cons (pe_smS C_P_constant hr (by decide) noLet (pe_glob (v := .ref A_Poly) (by rfl) T_P.gl rfl) (pa_cons (pv 2) pa_nil)) (pa_cons (pe_cc C__law_gather hr (by decide) (by rfl) (pa_cons (pe_lst (pa_cons (pe_tup (pa_cons (pv 2) (pa_cons pe_int (pa_cons pe_int (pa_cons pe_int pa_nil))))) pa_nil)) pa_nil)) pa_nil))))) (pss_one (ps_ret pe_bl)) pss_nil)
 (pss_cons (ps_if (PW.pt (pw_or (pt_not (pt_val (pe_cc C__law_is hr (by decide) (by rfl) (pa_cons (pe_mkD CI hr (by decide) (by rfl) noLet) (pa_cons (pe_tup pa_nil) pa_nil))))) (pw_or (pt_not (pt_val (pe_cc C__law_is hr (by decide) (by rfl) (pa_cons (pe_mkS CI hr (by decide) (by rfl) noLet (pa_cons (pe_lst pa_nil) pa_nil)) (pa_cons (pe_tup pa_nil) pa_nil))))) (pw_or1 (pt_not (pt_val (pe_cc C__law_is hr (by decide) (by rfl) (pa_cons (pe_smS C_P_constant hr (by decide) noLet (pe_glob (v := .ref A_Poly) (by rfl) T_P.gl rfl) (pa_cons pe_int pa_nil)) (pa_cons (pe_tup pa_nil) pa_nil))))))))) (pss_one (ps_ret pe_bl)) pss_nil)
 (pss_cons (ps_setLc (i := 3) (own := [("k", 9)]) (g := gName 9) rfl sc__law_simple.nd rfl rfl (sw_true rfl rfl rfl (by decide +kernel)) (pi_range1 (by rfl) T.z_range (pa_cons (pe_cc C__law_draw hr (by decide) (by rfl) (pa_cons (pv 0) (pa_cons (pe_op op_add pe_int (pe_op op_mulG pe_int (pe_op op_fdiv (pe_cc C__law_draw hr (by decide) (by rfl) (pa_cons (pv 0) (pa_cons pe_int pa_nil))) pe_int))) pa_nil))) pa_nil)) (blkOk_by (own := [("k", 9)]) (N := ["box", "great", "n", "numbers", "row", "at", "name", "due", "told", "k"]) (sc := defScope s__law_simple) (by decide +kernel)) (fun _ _ _ _ _ => pg_name (i := 9) sc__law_simple.nd rfl (Or.inl rfl)) (fun _ _ _ _ _ => pts_nil) (fun _ _ _ _ _ => (pe_cc C__law_number hr (by decide) (by rfl) (pa_cons (pv 0) (pa_cons (pv 1) pa_nil)))))
 (pss_cons (ps_set (i := 4) sc__law_simple.nd rfl (Or.inr rfl) (pe_callTy (k_tuple (K := K) rfl) (by rfl) T.z_tuple (by decide +kernel) (pa_cons (pe_op op_cat (pv 3) (pe_lst (pa_cons (pe_op op_add pe_int (pe_cc C__law_draw hr (by decide) (by rfl) (pa_cons (pv 0) (pa_cons pe_int pa_nil)))) pa_nil))) pa_nil)))
 (Evl.pss_cut (ps_if (pt_cmpR op_eq (pe_cc C__law_draw hr (by decide) (by rfl) (pa_cons (pv 0) (pa_cons pe_int pa_nil))) pe_int (nomark _)) (pss_one (ps_set (i := 4) sc__law_simple.nd rfl (Or.inr rfl) (pe_tup pa_nil))) pss_nil)
 (pss_cons (ps_for PassesOwn.never rfl (pi_range2 (by rfl) T.z_range (pa_cons pe_int (pa_cons pe_int pa_nil))) (pg_name (i := 5) sc__law_simple.nd rfl (Or.inr rfl)) (pss_cons (ps_set (i := 6) sc__law_simple.nd rfl (Or.inl rfl) (pe_ix (k_ixL (K := K) rfl) (pe_lst (pa_cons pe_str (pa_cons pe_str (pa_cons pe_str pa_nil)))) (pe_op op_sub (pv 5) pe_int) (fun _ _ => rfl)))
 (pss_cons (ps_if (pt_not (pt_val (pe_cc C__law_is hr (by decide) (by rfl) (pa_cons (pe_smS C_P_of_unknown hr (by decide) noLet (pe_glob (v := .ref A_Poly) (by rfl) T_P.gl rfl) (pa_cons (pv 6) pa_nil)) (pa_cons (pe_tup (pa_cons (pe_cc C__law_moved hr (by decide) (by rfl) (pa_cons (pe_tup (pa_cons pe_int (pa_cons pe_int (pa_cons pe_int (pa_cons pe_int pa_nil))))) (pa_cons (pv 5) (pa_cons pe_int pa_nil)))) pa_nil)) pa_nil))))) (pss_one (ps_ret pe_bl)) pss_nil)
 (pss_cons (ps_set (i := 7) sc__law_simple.nd rfl (Or.inl rfl) (pe_cc C__law_gather hr (by decide) (by rfl) (pa_cons (pe_lc (own := [("k", 9)]) (g := gName 9) rfl sc__law_simple.nd (pi_range1 (by rfl) T.z_range (pa_cons (pe_callB (k_len (K := K) rfl) (by rfl) T.z_len PySem.boot_len (pa_cons (pv 4) pa_nil)) pa_nil)) (blkOk_by (own := [("k", 9)]) (N := ["box", "great", "n", "numbers", "row", "at", "name", "due", "told", "k"]) (sc := defScope s__law_simple) (by decide +kernel)) (fun _ _ _ _ _ => pg_name (i := 9) sc__law_simple.nd rfl (Or.inl rfl)) (fun _ _ _ _ _ => pts_nil) (fun _ _ _ _ _ => (pe_cc C__law_moved hr (by decide) (by rfl) (pa_cons (pe_tup (pa_cons (pe_ix (k_ixT (K := K) rfl) (pv 4) (pv 9) (fun _ _ => rfl)) (pa_cons pe_int (pa_cons pe_int (pa_cons pe_int pa_nil))))) (pa_cons (pv 5) (pa_cons (pv 9) pa_nil)))))) pa_nil)))
 (pss_cons (ps_set (i := 8) sc__law_simple.nd rfl (Or.inl rfl) (pe_smS C_P_of_row hr (by decide) noLet (pe_glob (v := .ref A_Poly) (by rfl) T_P.gl rfl) (pa_cons (pv 4) (pa_cons (pv 6) pa_nil))))
 (pss_cons (ps_if (PW.pt (pw_or (pt_not (pt_val (pe_cc C__law_is hr (by decide) (by rfl) (pa_cons (pv 8) (pa_cons (pv 7) pa_nil))))) (pw_or1 (pt_not (pt_val (pe_cc C__law_row_of hr (by decide) (by rfl) (pa_cons (pv 8) (pa_cons (pv 7) (pa_cons (pe_op op_add pe_int (pe_op op_mod (pe_callTy cb_int (by rfl) T.z_int (by decide +kernel) (pa_cons (pv 5) pa_nil)) pe_int)) pa_nil))))))))) (pss_one (ps_ret pe_bl)) pss_nil)
 (pss_one (ps_if (pt_not (pt_val (pe_cc C__law_same hr (by decide) (by rfl) (pa_cons (pe_mmS T_P.cls C_P_as_row hr (by decide) noLet (pv 8) (pa_cons (pv 6) pa_nil)) (pa_cons (pv 4) pa_nil))))) (pss_one (ps_ret pe_bl)) pss_nil))))))))
 (pss_one (ps_ret pe_bl))))))))), ?_⟩
  refine w_start (σ := [some _, some _, none, none, none, none, none, none, none, none]) rfl ?_
  walk_at "go"
  refine ⟨b, c, g, rfl, B, by omega, fun n H1 hn c1 B1 => ?_⟩
  walk_at "go"
  refine ⟨n, rfl, fun r H2 us nfu cu c2 hr2 => ?_⟩
  walk_at "go"
  refine w_newT (show 4 ≤ sizeLine by decide) fun t3 H3 n3 c3 h3 => ?_
  walk_at "go"
  refine w_newL (show 1 ≤ sizeLine by decide) fun l4 H4 n4 c4 h4 => ?_
  walk_at "go"
  refine ⟨l4, [⟨n, 0, 0, 0⟩], rfl, ⟨_, h4, tms_one (t := ⟨n, 0, 0, 0⟩) (c4.sqT (.of h3))⟩, show 1 < 900000 by decide, fun t5 H5 ws nfw cw c5 ht5 _ => ?_⟩
  obtain rfl := nfu.eq nfw fun e => by rw [cu, cw]
  have lus : us.length ≤ 1 := nfu.len_le cu
  walk_at "go"
  refine ⟨r, t5, us, rfl, hr2.ch (c3.trans (c4.trans c5)), ht5, by omega, fun H6 c6 => ?_⟩
  refine ⟨_, rfl, ?_⟩
  have cA := c2.trans (c3.trans (c4.trans (c5.trans c6)))
  have c1 := c1.trans0 cA
  have B1 := B1.mono cA
  clear c2 c3 c4 c5 c6 hr2 ht5 h3 h4 cA
  walk_at "go"
  refine mk_poly (z := true) (a := A_e) (UE _) Els.nil (by decide) (fun _ h => nomatch h) fun p dx t2 H2 us2 nf2 ce2 np c2 hp ht2 => ?_
  obtain rfl := nf_nil ce2 nf2
  walk_at "go"
  refine w_newT (show 0 ≤ sizeLine by decide) fun t3 H3 n3 c3 h3 => ?_
  walk_at "go"
  refine ⟨p, t3, [], rfl, Po.ch ⟨dx, t2, hp, ht2⟩ c3, ⟨[], .of h3, Els.nil⟩, by decide, fun H4 c4 => ?_⟩
  refine ⟨_, rfl, ?_⟩
  walk_at "go"
  refine w_newL (show 0 ≤ sizeLine by decide) fun l5 H5 n5 c5 h5 => ?_
  walk_at "go"
  refine mk_poly (z := false) (a := l5) (xs := []) (ts := []) h5 Els.nil (by decide) (fun _ h => nomatch h) fun p dx t2 H6 us2 nf2 ce2 np c6 hp ht2 => ?_
  obtain rfl := nf_nil ce2 nf2
  walk_at "go"
  refine w_newT (show 0 ≤ sizeLine by decide) fun t3 H7 n7 c7 h7 => ?_
  walk_at "go"
  refine ⟨p, t3, [], rfl, Po.ch ⟨dx, t2, hp, ht2⟩ c7, ⟨[], .of h7, Els.nil⟩, by decide, fun H8 c8 => ?_⟩
  refine ⟨_, rfl, ?_⟩
  walk_at "go"
  refine ⟨0, rfl, fun r H9 us nfu cu c9 hr9 => ?_⟩
  obtain rfl := nf_zero (e := (0, 0, 0)) cu nfu
  walk_at "go"
  refine w_newT (show 0 ≤ sizeLine by decide) fun t3 H10 n10 c10 h10 => ?_
  walk_at "go"
  refine ⟨r, t3, [], rfl, hr9.ch c10, ⟨[], .of h10, Els.nil⟩, by decide, fun H11 c11 => ?_⟩
  refine ⟨_, rfl, ?_⟩
  have cA := c2.trans (c3.trans (c4.trans (c5.trans (c6.trans (c7.trans (c8.trans (c9.trans (c10.trans c11))))))))
  have c1 := c1.trans0 cA
  have B1 := B1.mono cA
  clear c2 c3 c4 c5 c6 c7 c8 c9 c10 c11 h3 h5 h7 h10 hr9 cA
  walk_at "go"
  refine ⟨b, c, 8, rfl, B1, by decide, by decide, fun r1 H2 r10 r11 c2 B2 => ?_⟩
  walk_at "go"
  refine ⟨b, c, _, rfl, B2, by omega, by omega, fun r2 H3 r20 r21 c3 B3 => ?_⟩
  have c13 := (c1.trans c2).trans c3
  clear c1 c2 c3 B1 B2
  walk_at "go"
  refine w_iR1r (by omega) (by omega) ?_
  refine lc_box (b := b) (c := c) (fun v => ∃ z : Int, v = .int z) rfl (by omega) B3 ?_ ?_
  · intro k H4 hk c4 B4 S hS
    walk_at "go"
    exact ⟨b, c, g, rfl, B4, by omega, fun z H5 _ c5 B5 => hS (.int z) H5 c5 B5 ⟨z, rfl⟩⟩
  intro D H4 out nD c4 B4 lo pr hD
  obtain ⟨ns, rfl, ln⟩ := ints_of pr
  have c14 := c13.trans c4
  have z8 : (1000000 : Nat) ≤ sizeLine := by decide
  walk_at "go"
  refine ⟨b, c, 9, rfl, B4, by decide, by decide, fun r3 H5 r30 r31 c5 B5 => ?_⟩
  have neD := (B3.ne nD).1
  have hD := c5.at1 neD.symm hD
  have c15 := c14.trans c5
  walk_at "go"
  refine w_newL (show 1 ≤ sizeLine by decide) fun l6 H6 n6 c6 h6 => ?_
  refine w_cat (c6.at0 hD) h6 (by simp only [List.length_cons, List.length_nil]; omega) fun l7 H7 n7 c7 h7 => ?_
  walk_at "go"
  refine w_tupleL (.of h7) fun rw H8 n8 c8 h8 => ?_
  have h8 : SqT K H8 rw (ivs (ns ++ [1 + r3])) := by
    refine .of ?_
    rw [h8]
    show _ = some (HO.tup ((ns ++ [1 + r3]).map V.int))
    rw [List.map_append]
    rfl
  have cA := c6.trans (c7.trans c8)
  have c1 := c15.trans0 cA
  have B1 := B5.mono cA
  clear c13 c14 c15 c4 c5 c6 c7 c8 cA B3 B4 B5 hD h6 h7
  walk_at "go"
  refine w_cut (M := fun σ' H' => Ch [b] H H' ∧ Box H' b c ∧ ∃ rw r, SqT K H' rw (ivs r) ∧ r.length ≤ 100 ∧ (r = [] ∨ r.getD (r.length - 1) 0 ≠ 0) ∧ σ' = [some (.ref b), some (.int g), some (.int n), some (.ref D), some (.ref rw), none, none, none, none, none]) ?_ ?_
  · walk_at "go"
    refine ⟨b, c, 6, rfl, B1, by decide, by decide, fun r4 H9 r40 r41 c9 B9 => ?_⟩
    walk_at "go"
    refine ite_d (fun h => ?_) (fun h => ?_)
    · walk_at "go"
      refine w_newT (show 0 ≤ sizeLine by decide) fun e0 H10 n10 c10 h10 => ?_
      exact ⟨(c1.trans c9).trans0 c10, B9.mono c10, e0, [], .of h10, Nat.zero_le _, .inl rfl, rfl⟩
    · walk_at "go"
      refine ⟨c1.trans c9, B9, rw, ns ++ [1 + r3], c9.sqT h8, by rw [List.length_append]; simp only [List.length_cons, List.length_nil]; omega, .inr ?_, rfl⟩
      rw [List.getD_eq_getElem?_getD, List.length_append, List.length_cons, List.length_nil, Nat.add_sub_cancel, List.getElem?_append_right (Nat.le_refl _), Nat.sub_self]
      show (1 + r3 : Int) ≠ 0
      omega
  rintro σ' H9 ⟨c9, B9, rw, r, hrw, lr, hr, rfl⟩
  walk_at "go"
  refine w_iR2r ⟨by decide, by decide, by decide, by decide⟩ ?_
  refine for_R (n := 3) (fun i σ H' => Ch [] H9 H' ∧ ∃ z1 z2 z3 z4 z5, σ = [some (.ref b), some (.int g), some (.int n), some (.ref D), some (.ref rw), z1, z2, z3, z4, z5])
    ⟨.refl, _, _, _, _, _, rfl⟩ ?_ ?_
  · rintro i σ H' hi ⟨cc, z1, z2, z3, z4, z5, rfl⟩
    walk_at "go"
    refine w_newL (show 3 ≤ sizeLine by decide) fun l1 H1 n1 c1 h1 => ?_
    walk_at "go"
    refine w_ixL (.of h1) (xyz_at hi (by omega)) ?_
    walk_at "go"
    refine ⟨usN i, rfl, .inl ⟨i, hi, rfl, fun p H2 us nfu cu c2 hp => ?_⟩⟩
    obtain rfl := nfu.eq (nf_one (t := setN i 1 1 ⟨0, 0, 0, 0⟩) (by rw [setN_c]; decide)) cu
    walk_at "go"
    refine w_newT (show 4 ≤ sizeLine by decide) fun t3 H3 n3 c3 h3 => ?_
    walk_at "go"
    refine ⟨t3, i, _, 1, ⟨1, 0, 0, 0⟩, rfl, by omega, hi, .of h3, fun b4 u H4 eu c4 h4 => ?_⟩
    have eu : u = setN i 1 1 ⟨0, 0, 0, 0⟩ := by rw [eu]; exact set1
    subst eu
    walk_at "go"
    refine w_newT (show 1 ≤ sizeLine by decide) fun t5 H5 n5 c5 h5 => ?_
    walk_at "go"
    refine ⟨p, t5, _, rfl, hp.ch (c3.trans (c4.trans c5)), ⟨_, .of h5, tms_one (c5.sqT h4)⟩, show 1 < 800000 by decide, fun H6 c6 => ?_⟩
    refine ⟨_, rfl, ?_⟩
    have cA := cc.trans (c1.trans (c2.trans (c3.trans (c4.trans (c5.trans c6)))))
    clear cc c1 c2 c3 c4 c5 c6 hp h1 h3 h4 h5
    have hrw6 := cA.sqT hrw
    walk_at "go"
    refine w_iR1r (by omega) (by omega) ?_
    refine lc_e (List.range r.length) (walk_range (lo := 0) (n := r.length)) List.length_range (fun _ => true) (fun k v H => Tme K (setN i (r.getD k 0) (k : Int) Z4) v H) (fun _ _ _ _ _ c h => h.ch c) (fun _ _ => trivial) (by omega) ?st ?_
    case st =>
      rintro k l x0 H8 H9 ht c9 ⟨y1, y2⟩ Nx A1 hN hA
      subst y1 y2
      have hk : k < r.length := by
        have := lt_of_get ht
        rwa [List.length_range] at this
      have el : l = k := by
        rw [List.getElem?_range hk] at ht
        exact (Option.some.inj ht).symm
      subst el
      have hrw8 := c9.sqT hrw6
      walk_at "go"
      refine ⟨rfl, ?_⟩
      walk_at "go"
      refine w_ixT hrw8 (v := .int (r.getD l 0)) (atI_at (k := l) (by omega) ?_) ?_
      · unfold ivs
        rw [List.getElem?_map, List.getD_eq_getElem?_getD, List.getElem?_eq_getElem hk]
        rfl
      walk_at "go"
      refine w_newT (show 4 ≤ sizeLine by decide) fun t3 H3 n3 c3 h3 => ?_
      walk_at "go"
      refine ⟨t3, i, _, _, ⟨r.getD l 0, 0, 0, 0⟩, rfl, by omega, hi, .of h3, fun b4 u H4 eu c4 h4 => ?_⟩
      have eu : u = setN i (r.getD l 0) (l : Int) Z4 := by rw [eu, Int.zero_add]; exact setz
      subst eu
      exact hA _ H4 (c3.trans c4) rfl ⟨b4, rfl, h4⟩
    intro tl H7 out nD c7 htl el
    rw [filter_yes] at el
    have em : Tms K H7 out (rowT i r) := el.map (F := Tme K) (f := fun k : Nat => setN i (r.getD k 0) (k : Int) Z4) fun _ _ _ h => h
    walk_at "go"
    refine ⟨tl, _, rfl, ⟨out, htl, em⟩, by unfold rowT; rw [List.length_map, List.length_range]; omega, fun du H8 us nfu cu c8 hdu _ => ?_⟩
    have c8 := c7.trans c8
    walk_at "go"
    refine ⟨rw, usN i, r, rfl, c8.sqT hrw6, by omega, .inl ⟨i, hi, rfl, fun p H9 ws nfw cw c9 hp => ?_⟩⟩
    obtain rfl := nfu.eq nfw fun e => by rw [cu, cw]
    have of : OfRow i r us := ⟨nfu, cu⟩
    have lus : us.length ≤ 100 := by
      have := nfu.len_le cu
      unfold rowT at this
      rw [List.length_map, List.length_range] at this
      omega
    have hdu := hdu.ch c9
    walk_at "go"
    refine ⟨p, du, us, rfl, hp, hdu, by omega, fun H10 c10 => ?_⟩
    refine ⟨_, rfl, ?_⟩
    have hp := hp.ch c10
    have hdu := hdu.ch c10
    walk_at "go"
    refine ⟨p, du, (i + 1) % 3, _, us, rfl, by omega, Nat.mod_lt _ (by decide), hp, hdu, of.ex, by omega, fun m _ => by have := of.exle m; omega, fun H11 c11 => ?_⟩
    refine ⟨_, rfl, ?_⟩
    have hp := hp.ch c11
    have cB := c8.trans (c9.trans (c10.trans c11))
    walk_at "go"
    refine rmeP hp (fun _ => rfl) ?_
    walk_at "go"
    refine ⟨p, usN i, us, rfl, hp, by omega, of.ex, fun m _ => by have := of.exle m; omega, .inl ⟨i, hi, rfl, .inl ⟨of.alone, fun t H12 c12 h12 => ?_⟩⟩⟩
    rw [of.row hr] at h12
    walk_at "go"
    refine ⟨t, rw, r, r, rfl, .of h12, (cB.trans c12).sqT hrw6, by omega, by omega, fun H13 c13 => ?_⟩
    rw [decide_eq_true rfl]
    refine ⟨_, rfl, ?_⟩
    walk_at "go"
    exact ⟨cA.trans (cB.trans (c12.trans c13)), _, _, _, _, _, rfl⟩
  rintro σ H' ⟨cc, z1, z2, z3, z4, z5, rfl⟩
  walk_at "go"
  exact q H' (c9.trans0 cc) (B9.mono cc)
end
end My
namespace My
open PySem PySem.Spec PyProof.Rows L2
theorem sqT_keep {K : PySem.W.Frag} {H1 H2 : Hp} {a : Addr} {xs : List V} (k : ∀ c o, H1 c = some o → H2 c = some o) (h : SqT K H1 a xs) : SqT K H2 a xs := by
  rcases h with (h | ⟨o, h⟩) | h
  · exact .inl (.inl (k _ _ h))
  · exact .inl (.inr ⟨o, k _ _ h⟩)
  · exact .inr h
theorem tyOf_keep {K : PySem.W.Frag} {H1 H2 : Hp} {v : V} {ty : Value} (k : ∀ c o, H1 c = some o → H2 c = some o) (h : TyOf K H1 v ty) : TyOf K H2 v ty := by
  cases h with
  | non => exact .non
  | bl x => exact .bl x
  | int i => exact .int i
  | str x => exact .str x
  | flt x => exact .flt x
  | lst e => exact .lst (k _ _ e)
  | frz e => exact .frz (k _ _ e)
  | tup e => exact .tup (k _ _ e)
  | dK e => exact .dK (k _ _ e)
  | dT e => exact .dT (k _ _ e)
  | ins e a b c d m => exact .ins (k _ _ e) a b c d m
theorem Itm.keep {K : PySem.W.Frag} {b : Bool} {v : V} {H1 H2 : Hp} (k : ∀ c o, H1 c = some o → H2 c = some o) (h : Itm K H1 b v) : Itm K H2 b v := by
  cases h with
  | four t h => exact .four t (sqT_keep k h)
  | noTup h n => exact .noTup (tyOf_keep k h) n
  | len h n n2 => exact .len (sqT_keep k h) n n2
  | part h n p b =>
    refine .part (sqT_keep k h) n (fun x m => ?_) b
    rcases p x m with p | p | ⟨ty, p, q⟩
    · exact .inl p
    · exact .inr (.inl p)
    · exact .inr (.inr ⟨ty, tyOf_keep k p, q⟩)
section
variable {P : Program} {w : World} {K : PySem.W.Frag} {mg : Str → Option Value} {base : Heap}
abbrev s__law_refuses_name : Stmt := topS 57
theorem sc__law_refuses_name : FnScope ["p", "door", "name", "raised"] ["p", "door", "name"] (defScope s__law_refuses_name) := ⟨rfl, rfl, rfl, by decide +kernel, rfl, by decide +kernel, by decide +kernel⟩
def sp__law_refuses_name (K : PySem.W.Frag) (C : Addr) : Sp := fun vs H Q _ => ∃ (p : Addr) (d : Int) (z : Str) (ts : List Tm), vs = [.ref p, .int d, .str z] ∧ Po K C H p ts ∧ ExpOk ts ∧ ts.length ≤ 300 ∧ (∀ n, degI n ts ≤ 900) ∧ Cb 1000 ts ∧ (∀ n, n < 3 → z ≠ usN n) ∧ ∀ H', Ch [] H H' → Q (.bl true) H'
theorem c__law_refuses_name {A_Poly A_InvalidPoly A_InvalidUnknown A_NotOneUnknown A_CellspireError : Addr} (T : Txt mg) (T_P : PolyK K mg A_Poly) (G_NotOneUnknown : mg "NotOneUnknown" = some (.ref A_NotOneUnknown)) (G_InvalidUnknown : mg "InvalidUnknown" = some (.ref A_InvalidUnknown)) (G_InvalidPoly : mg "InvalidPoly" = some (.ref A_InvalidPoly))
    (G_CellspireError : mg "CellspireError" = some (.ref A_CellspireError)) (XC_InvalidUnknown : ExcC K A_InvalidUnknown) (NA_InvalidUnknown_unknown : PySem.W.findIn K (.ref A_InvalidUnknown) "unknown" = some none)
    (e1 : PySem.W.exmOne K (.ref A_InvalidUnknown) (.ref A_InvalidUnknown) = some true) (e2 : PySem.W.kitOne K (.ref A_InvalidUnknown) (.ref A_NotOneUnknown) = some false) (e3 : PySem.W.kitOne K (.ref A_InvalidUnknown) (.ref A_InvalidPoly) = some false) (e4 : PySem.W.kitOne K (.ref A_InvalidUnknown) (.ref A_CellspireError) = some true)
    (C_P_of_unknown : CalSN P w K mg base 5 A_Poly "of_unknown" (sp_P_of_unknown K A_Poly A_InvalidUnknown)) (C_P_of_row : CalSN P w K mg base 5 A_Poly "of_row" (sp_P_of_row K A_Poly A_InvalidUnknown))
    (C_P_degree_in : CalMN P w K mg base 4 A_Poly "degree_in" (sp_P_degree_in K A_Poly A_InvalidUnknown)) (C_P_coefficients : CalMN P w K mg base 6 A_Poly "coefficients" (sp_P_coefficients K A_Poly A_InvalidUnknown))
    (C_P_put : CalMN P w K mg base 6 A_Poly "put" (sp_P_put K A_Poly A_InvalidUnknown)) (C_P_as_row : CalMN P w K mg base 5 A_Poly "as_row" (sp_P_as_row K A_Poly A_InvalidUnknown A_NotOneUnknown)) (C_P_slope : CalMN P w K mg base 6 A_Poly "slope" (sp_P_slope K A_Poly A_InvalidUnknown))
    {f : Addr} {fd : FuncData} (F : DefF K mg "_law_refuses_name" s__law_refuses_name ["p", "door", "name"] f fd) : Cal P w K mg base 7 "_law_refuses_name" (sp__law_refuses_name K A_Poly) := by
  refine cal_of F sc__law_refuses_name (fun vs H Q E h => by obtain ⟨_, _, _, _, rfl, _⟩ := h; rfl) (fun cdv A outer s H vs Q E hr h => ?_)
  obtain ⟨p, d, z, ts, rfl, hp, ex, lt, dl, cb, ne, q⟩ := h
  refine ⟨_, (pss_cons (L2N.ps_try_as (i := 3) (Wout := fun _ _ _ _ => False) rfl rfl sc__law_refuses_name.nd rfl rfl ⟨rfl, by decide, Or.inl G_InvalidUnknown⟩ takesN0 (fun W pn xe tk po => (pss_one (ps_if (pt_cmpR op_eq (pv 1) pe_int (nomark _)) (pss_one (ps_expr (pe_smS C_P_of_unknown hr (by decide) (letW tk) (pe_glob (v := .ref A_Poly) (by rfl) T_P.gl rfl) (pa_cons (pv 2) pa_nil)))) (pss_one (ps_if (pt_cmpR op_eq (pv 1) pe_int (nomark _)) (pss_one (ps_expr (pe_smS C_P_of_row hr (by decide) (letW tk) (pe_glob (v := .ref A_Poly) (by rfl) T_P.gl rfl) (pa_cons (pe_tup (pa_cons pe_int (pa_cons pe_int pa_nil))) (pa_cons (pv 2) pa_nil))))) (pss_one (ps_if (pt_cmpR op_eq (pv 1) pe_int (nomark _)) (pss_one (ps_expr (pe_mmS T_P.cls C_P_degree_in hr (by decide) (letW tk) (pv 0) (pa_cons (pv 2) pa_nil)))) (pss_one (ps_if (pt_cmpR op_eq (pv 1) pe_int (nomark _)) (pss_one (ps_expr (pe_mmS T_P.cls C_P_coefficients hr (by decide) (letW tk) (pv 0) (pa_cons (pv 2) pa_nil)))) (pss_one (ps_if (pt_cmpR op_eq (pv 1) pe_int (nomark _)) (pss_one (ps_expr (pe_mmS T_P.cls C_P_put hr (by decide) (letW tk) (pv 0) (pa_cons (pv 2) (pa_cons (pe_tup (pa_cons pe_int (pa_cons pe_int pa_nil))) pa_nil))))) (pss_one (ps_if (pt_cmpR op_eq (pv 1) pe_int (nomark _)) (pss_one (ps_expr (pe_mmS T_P.cls C_P_as_row hr (by decide) (letW tk) (pv 0) (pa_cons (pv 2) pa_nil)))) (pss_one (ps_expr (pe_mmS T_P.cls C_P_slope hr (by decide) (letW tk) (pv 0) (pa_cons (pv 2) pa_nil)))))))))))))))))
  (fun a oe cls d pn hz hf => (pss_cons (ps_if (PW.pt (pw_or (pt_val (pe_callB (k_isY (K := K) rfl XC_InvalidUnknown hz.zc hf) (by rfl) T.z_isinstance (by decide +kernel) (pa_cons (pv 3) (pa_cons (pe_glob (v := .ref A_NotOneUnknown) (by rfl) G_NotOneUnknown rfl) pa_nil)))) (pw_or1 (pt_val (pe_callB (k_isY (K := K) rfl XC_InvalidUnknown hz.zc hf) (by rfl) T.z_isinstance (by decide +kernel) (pa_cons (pv 3) (pa_cons (pe_glob (v := .ref A_InvalidPoly) (by rfl) G_InvalidPoly rfl) pa_nil))))))) (pss_one (ps_ret pe_bl)) pss_nil)
 (pss_one (ps_ret (pe_and (pe_callB (k_isY (K := K) rfl XC_InvalidUnknown hz.zc hf) (by rfl) T.z_isinstance (by decide +kernel) (pa_cons (pv 3) (pa_cons (pe_glob (v := .ref A_CellspireError) (by rfl) G_CellspireError rfl) pa_nil))) (pe_one (pe_cmpR op_eq (pe_xf (xf_of XC_InvalidUnknown) NA_InvalidUnknown_unknown hz.zc hf (pv 3)) (pv 2) (nomark _)))))))))
 (pss_one (ps_ret pe_bl))), ?_⟩
  refine w_start (σ := [some _, some _, some _, none]) rfl ?_
  walk_at "go"
  refine ite_d (fun h => ?_) (fun h => ?_)
  · walk_at "go"
    refine ⟨z, rfl, .inr ⟨ne, fun dd H1 c1 hx => ?_⟩⟩
    refine ⟨true, e1, fun _ x nx => ?_, fun h => nomatch h⟩
    walk_at "go"
    refine w_isY (cv := .ref A_NotOneUnknown) (.inr ⟨dd, _, rfl, hx⟩) (fun u r => r) e2 ?_
    walk_at "go"
    refine w_isY (cv := .ref A_InvalidPoly) (.inr ⟨dd, _, rfl, hx⟩) (fun u r => r) e3 ?_
    walk_at "go"
    refine w_isY (cv := .ref A_CellspireError) (.inr ⟨dd, _, rfl, hx⟩) (fun u r => r) e4 ?_
    walk_at "go"
    refine w_xf ?_
    walk_at "go"
    refine ⟨rfl, dd, _, _, rfl, hx, rfl, ?_⟩
    walk_at "go"
    rw [decide_eq_true rfl]
    exact q _ c1
  walk_at "go"
  refine ite_d (fun h => ?_) (fun h => ?_)
  · walk_at "go"
    refine w_newT (show 2 ≤ sizeLine by decide) fun t1 H1 n1 c1 h1 => ?_
    walk_at "go"
    refine ⟨t1, z, [1, 2], rfl, .of h1, show 2 < 100000 by decide, .inr ⟨ne, fun dd H2 c2 hx => ?_⟩⟩
    refine ⟨true, e1, fun _ x nx => ?_, fun h => nomatch h⟩
    walk_at "go"
    refine w_isY (cv := .ref A_NotOneUnknown) (.inr ⟨dd, _, rfl, hx⟩) (fun u r => r) e2 ?_
    walk_at "go"
    refine w_isY (cv := .ref A_InvalidPoly) (.inr ⟨dd, _, rfl, hx⟩) (fun u r => r) e3 ?_
    walk_at "go"
    refine w_isY (cv := .ref A_CellspireError) (.inr ⟨dd, _, rfl, hx⟩) (fun u r => r) e4 ?_
    walk_at "go"
    refine w_xf ?_
    walk_at "go"
    refine ⟨rfl, dd, _, _, rfl, hx, rfl, ?_⟩
    walk_at "go"
    rw [decide_eq_true rfl]
    exact q _ (c1.trans c2)
  walk_at "go"
  refine ite_d (fun h => ?_) (fun h => ?_)
  · walk_at "go"
    refine rmeP hp (fun _ => rfl) ?_
    walk_at "go"
    refine ⟨p, z, ts, rfl, hp, by omega, .inr ⟨ne, fun dd H1 c1 hx => ?_⟩⟩
    refine ⟨true, e1, fun _ x nx => ?_, fun h => nomatch h⟩
    walk_at "go"
    refine w_isY (cv := .ref A_NotOneUnknown) (.inr ⟨dd, _, rfl, hx⟩) (fun u r => r) e2 ?_
    walk_at "go"
    refine w_isY (cv := .ref A_InvalidPoly) (.inr ⟨dd, _, rfl, hx⟩) (fun u r => r) e3 ?_
    walk_at "go"
    refine w_isY (cv := .ref A_CellspireError) (.inr ⟨dd, _, rfl, hx⟩) (fun u r => r) e4 ?_
    walk_at "go"
    refine w_xf ?_
    walk_at "go"
    refine ⟨rfl, dd, _, _, rfl, hx, rfl, ?_⟩
    walk_at "go"
    rw [decide_eq_true rfl]
    exact q _ c1
  walk_at "go"
  refine ite_d (fun h => ?_) (fun h => ?_)
  · walk_at "go"
    refine rmeP hp (fun _ => rfl) ?_
    walk_at "go"
    refine ⟨p, z, ts, rfl, hp, by omega, ex, fun n => by have := dl n; omega, .inr ⟨ne, fun dd H1 c1 hx => ?_⟩⟩
    refine ⟨true, e1, fun _ x nx => ?_, fun h => nomatch h⟩
    walk_at "go"
    refine w_isY (cv := .ref A_NotOneUnknown) (.inr ⟨dd, _, rfl, hx⟩) (fun u r => r) e2 ?_
    walk_at "go"
    refine w_isY (cv := .ref A_InvalidPoly) (.inr ⟨dd, _, rfl, hx⟩) (fun u r => r) e3 ?_
    walk_at "go"
    refine w_isY (cv := .ref A_CellspireError) (.inr ⟨dd, _, rfl, hx⟩) (fun u r => r) e4 ?_
    walk_at "go"
    refine w_xf ?_
    walk_at "go"
    refine ⟨rfl, dd, _, _, rfl, hx, rfl, ?_⟩
    walk_at "go"
    rw [decide_eq_true rfl]
    exact q _ c1
  walk_at "go"
  refine ite_d (fun h => ?_) (fun h => ?_)
  · walk_at "go"
    refine rmeP hp (fun _ => rfl) ?_
    walk_at "go"
    refine w_newT (show 2 ≤ sizeLine by decide) fun t1 H1 n1 c1 h1 => ?_
    walk_at "go"
    refine ⟨p, t1, z, ts, (1, 2), 58, 1000, rfl, hp.ch c1, by omega, ex, .of h1, show (1 : Int).natAbs < 2 ^ 58 by decide, show (2 : Int).natAbs < 2 ^ 58 by decide, by decide, fun n _ => by have := dl n; omega, cb, by decide, .inr ⟨ne, fun dd H2 c2 hx => ?_⟩⟩
    refine ⟨true, e1, fun _ x nx => ?_, fun h => nomatch h⟩
    walk_at "go"
    refine w_isY (cv := .ref A_NotOneUnknown) (.inr ⟨dd, _, rfl, hx⟩) (fun u r => r) e2 ?_
    walk_at "go"
    refine w_isY (cv := .ref A_InvalidPoly) (.inr ⟨dd, _, rfl, hx⟩) (fun u r => r) e3 ?_
    walk_at "go"
    refine w_isY (cv := .ref A_CellspireError) (.inr ⟨dd, _, rfl, hx⟩) (fun u r => r) e4 ?_
    walk_at "go"
    refine w_xf ?_
    walk_at "go"
    refine ⟨rfl, dd, _, _, rfl, hx, rfl, ?_⟩
    walk_at "go"
    rw [decide_eq_true rfl]
    exact q _ (c1.trans c2)
  walk_at "go"
  refine ite_d (fun h => ?_) (fun h => ?_)
  · walk_at "go"
    refine rmeP hp (fun _ => rfl) ?_
    walk_at "go"
    refine ⟨p, z, ts, rfl, hp, by omega, ex, fun n _ => by have := dl n; omega, .inr ⟨ne, fun dd H1 c1 hx => ?_⟩⟩
    refine ⟨true, e1, fun _ x nx => ?_, fun h => nomatch h⟩
    walk_at "go"
    refine w_isY (cv := .ref A_NotOneUnknown) (.inr ⟨dd, _, rfl, hx⟩) (fun u r => r) e2 ?_
    walk_at "go"
    refine w_isY (cv := .ref A_InvalidPoly) (.inr ⟨dd, _, rfl, hx⟩) (fun u r => r) e3 ?_
    walk_at "go"
    refine w_isY (cv := .ref A_CellspireError) (.inr ⟨dd, _, rfl, hx⟩) (fun u r => r) e4 ?_
    walk_at "go"
    refine w_xf ?_
    walk_at "go"
    refine ⟨rfl, dd, _, _, rfl, hx, rfl, ?_⟩
    walk_at "go"
    rw [decide_eq_true rfl]
    exact q _ c1
  walk_at "go"
  refine rmeP hp (fun _ => rfl) ?_
  walk_at "go"
  refine ⟨p, z, ts, rfl, hp, by omega, fun n _ => by have := dl n; omega, .inr ⟨ne, fun dd H1 c1 hx => ?_⟩⟩
  refine ⟨true, e1, fun _ x nx => ?_, fun h => nomatch h⟩
  walk_at "go"
  refine w_isY (cv := .ref A_NotOneUnknown) (.inr ⟨dd, _, rfl, hx⟩) (fun u r => r) e2 ?_
  walk_at "go"
  refine w_isY (cv := .ref A_InvalidPoly) (.inr ⟨dd, _, rfl, hx⟩) (fun u r => r) e3 ?_
  walk_at "go"
  refine w_isY (cv := .ref A_CellspireError) (.inr ⟨dd, _, rfl, hx⟩) (fun u r => r) e4 ?_
  walk_at "go"
  refine w_xf ?_
  walk_at "go"
  refine ⟨rfl, dd, _, _, rfl, hx, rfl, ?_⟩
  walk_at "go"
  rw [decide_eq_true rfl]
  exact q _ c1
abbrev s__law_refuses_terms : Stmt := topS 58
theorem sc__law_refuses_terms : FnScope ["terms", "raised"] ["terms"] (defScope s__law_refuses_terms) := ⟨rfl, rfl, rfl, by decide +kernel, rfl, by decide +kernel, by decide +kernel⟩
def sp__law_refuses_terms (K : PySem.W.Frag) : Sp := fun vs H Q _ => ∃ (a : Addr) (xs : List V) (bs : List Bool) (z : Bool), vs = [.ref a] ∧ SqS K z H a xs ∧ Els (fun b v H => Itm K H b v) H xs bs ∧ false ∈ bs ∧ xs.length < 800000 ∧ ∀ H', Ch [] H H' → Q (.bl true) H'
theorem c__law_refuses_terms {A_Poly A_InvalidPoly A_InvalidUnknown A_CellspireError A_e : Addr} (T : Txt mg) (T_P : PolyK K mg A_Poly) (z_ValueError : mg "ValueError" = none) (G_InvalidUnknown : mg "InvalidUnknown" = some (.ref A_InvalidUnknown)) (G_InvalidPoly : mg "InvalidPoly" = some (.ref A_InvalidPoly))
    (G_CellspireError : mg "CellspireError" = some (.ref A_CellspireError)) (XC_InvalidPoly : ExcC K A_InvalidPoly)
    (e1 : PySem.W.exmOne K (.ref A_InvalidPoly) (.ref A_InvalidPoly) = some true) (e2 : PySem.W.kitOne K (.ref A_InvalidPoly) (.ref A_InvalidUnknown) = some false) (e3 : PySem.W.kitOne K (.ref A_InvalidPoly) (.ref A_CellspireError) = some true) (e4 : PySem.W.kitOne K (.ref A_InvalidPoly) (.type "ValueError") = some true)
    (CI : CalI P w K mg base 3 "Poly" A_Poly [.ref A_e] (sp_P_init K A_Poly A_InvalidPoly))
    {f : Addr} {fd : FuncData} (F : DefF K mg "_law_refuses_terms" s__law_refuses_terms ["terms"] f fd) : Cal P w K mg base 5 "_law_refuses_terms" (sp__law_refuses_terms K) := by
  refine cal_of F sc__law_refuses_terms (fun vs H Q E h => by obtain ⟨_, _, _, _, rfl, _⟩ := h; rfl) (fun cdv A outer s H vs Q E hr h => ?_)
  obtain ⟨a, xs, bs, z, rfl, hs, hb, hf, hl, q⟩ := h
  refine ⟨_, (pss_cons (L2N.ps_try_as (i := 1) (Wout := fun _ _ _ _ => False) rfl rfl sc__law_refuses_terms.nd rfl rfl ⟨rfl, by decide, Or.inl G_InvalidPoly⟩ takesN0 (fun W pn xe tk po => (pss_one (ps_expr (pe_mkS CI hr (by decide) (by rfl) (letW tk) (pa_cons (pv 0) pa_nil)))))
  (fun a oe cls d pn hz hf => (pss_cons (ps_if (pt_val (pe_callB (k_isY (K := K) rfl XC_InvalidPoly hz.zc hf) (by rfl) T.z_isinstance (by decide +kernel) (pa_cons (pv 1) (pa_cons (pe_glob (v := .ref A_InvalidUnknown) (by rfl) G_InvalidUnknown rfl) pa_nil)))) (pss_one (ps_ret pe_bl)) pss_nil)
 (pss_one (ps_ret (pe_and (pe_callB (k_isY (K := K) rfl XC_InvalidPoly hz.zc hf) (by rfl) T.z_isinstance (by decide +kernel) (pa_cons (pv 1) (pa_cons (pe_glob (v := .ref A_CellspireError) (by rfl) G_CellspireError rfl) pa_nil))) (pe_one (pe_callB (k_isY (K := K) rfl XC_InvalidPoly hz.zc hf) (by rfl) T.z_isinstance (by decide +kernel) (pa_cons (pv 1) (pa_cons (pe_bltn (by rfl) z_ValueError (by decide +kernel) (v := .ty "ValueError") rfl) pa_nil))))))))))
 (pss_one (ps_ret pe_bl))), ?_⟩
  refine w_start (σ := [some _, none]) rfl ?_
  walk_at "go"
  refine mk_wrong hs hb hf hl (fun b v H2 k h => h.keep k) fun H1 c1 => ?_
  refine ⟨true, e1, fun _ x nx => ?_, fun h => nomatch h⟩
  walk_at "go"
  refine w_isY (cv := .ref A_InvalidUnknown) (.inl rfl) (fun u r => r) e2 ?_
  walk_at "go"
  refine w_isY (cv := .ref A_CellspireError) (.inl rfl) (fun u r => r) e3 ?_
  walk_at "go"
  refine w_isY (cv := .type "ValueError") (.inl rfl) (fun u r => r) e4 ?_
  exact q _ c1
end
end My
namespace My
open PySem PySem.Spec PyProof.Rows L2
open SX (S S_cat S_len S_tl S_inj)
open TL (numL tl joinL)
def LT : List Nat := (Str.ofString "abcdefghijklmnopqrstuvwABCXYZ 0_").cps.toList
theorem LT_len : LT.length = 32 := by decide +kernel
theorem LT_no : ∀ n, n < 3 → 120 + n ∉ LT := by decide +kernel
theorem chars_of : ∀ {out : List V}, (∀ v ∈ out, ∃ c, v = .str (S [c]) ∧ c ∈ LT) → ∃ cs : List Nat, out = svs (cs.map fun c => [c]) ∧ cs.length = out.length ∧ ∀ c ∈ cs, c ∈ LT
  | [], _ => ⟨[], rfl, rfl, fun _ h => nomatch h⟩
  | v :: out, h => by
    obtain ⟨c, e, m⟩ := h v List.mem_cons_self
    obtain ⟨cs, e2, l, m2⟩ := chars_of fun u m => h u (List.mem_cons_of_mem _ m)
    exact ⟨c :: cs, by rw [e, e2]; rfl, by rw [List.length_cons, List.length_cons, l], fun d md => (List.mem_cons.mp md).elim (fun e => e ▸ m) (m2 d)⟩
theorem flat_one (cs : List Nat) : (cs.map fun c => [c]).flatten = cs := by
  induction cs with
  | nil => rfl
  | cons c cs ih =>
    show [c] ++ (cs.map fun c => [c]).flatten = _
    rw [ih]
    rfl
theorem sum_one (cs : List Nat) : ((cs.map fun c => [c]).map List.length).sum = cs.length := by
  induction cs with
  | nil => rfl
  | cons c cs ih =>
    show 1 + ((cs.map fun c => [c]).map List.length).sum = cs.length + 1
    rw [ih]
    omega
def NoUnk (z : Str) : Prop := ∀ n, n < 3 → z ≠ usN n
theorem noUnk_cs {cs : List Nat} (h : ∀ c ∈ cs, c ∈ LT) : NoUnk (S cs) := fun n hn e => by
  rw [usN_S hn] at e
  have := S_inj e
  subst this
  exact LT_no n hn (h _ List.mem_cons_self)
theorem noUnk_six : ∀ z ∈ [Str.ofString "xy", Str.ofString "xx", Str.ofString "x ", Str.ofString " z", Str.ofString "X", Str.ofString "yz"], NoUnk z := by
  have : ∀ z ∈ [Str.ofString "xy", Str.ofString "xx", Str.ofString "x ", Str.ofString " z", Str.ofString "X", Str.ofString "yz"], z ≠ usN 0 ∧ z ≠ usN 1 ∧ z ≠ usN 2 := by decide +kernel
  intro z m n hn
  obtain ⟨a, b, c⟩ := this z m
  obtain rfl | rfl | rfl : n = 0 ∨ n = 1 ∨ n = 2 := by omega
  · exact a
  · exact b
  · exact c
theorem itm_bad {K : PySem.W.Frag} {H : Hp} {a : Addr} {t : Tm} (h : SqT K H a [.int t.c, .int t.i, .int t.j, .int t.k]) (n : t.i < 0 ∨ t.j < 0 ∨ t.k < 0) : Itm K H false (.ref a) := by
  have := Itm.four t h
  rwa [decide_eq_false (by omega)] at this
theorem itm_good {K : PySem.W.Frag} {H : Hp} {xs : List V} {ts : List Tm} (h : Tms K H xs ts) (ex : ExpOk ts) : Els (fun b v H => Itm K H b v) H xs (ts.map fun _ => true) := itms h ex
section
variable {P : Program} {w : World} {K : PySem.W.Frag} {mg : Str → Option Value} {base : Heap}
abbrev s__law_refusals : Stmt := topS 59
theorem sc__law_refusals : FnScope ["box", "p", "terms", "letters", "name", "door", "c", "e", "bad", "place", "wrong", "k"] ["box", "p", "terms"] (defScope s__law_refusals) := ⟨rfl, rfl, rfl, by decide +kernel, rfl, by decide +kernel, by decide +kernel⟩
def sp__law_refusals (K : PySem.W.Frag) (C : Addr) : Sp := fun vs H Q _ => ∃ (b c p l : Addr) (ts us : List Tm), vs = [.ref b, .ref p, .ref l] ∧ Box H b c ∧ l ≠ b ∧ Po K C H p us ∧ TmL K H l ts ∧ ExpOk ts ∧ ts.length ≤ 17 ∧ ExpOk us ∧ us.length ≤ 300 ∧ (∀ n, degI n us ≤ 900) ∧ Cb 1000 us ∧ ∀ H', Ch [b] H H' → Box H' b c → Q (.bl true) H'
theorem c__law_refusals {A_Poly : Addr} (T : Txt mg) (C__law_draw : Cal P w K mg base 2 "_law_draw" sp__law_draw) (C__law_refuses_name : Cal P w K mg base 7 "_law_refuses_name" (sp__law_refuses_name K A_Poly)) (C__law_refuses_terms : Cal P w K mg base 5 "_law_refuses_terms" (sp__law_refuses_terms K))
    {f : Addr} {fd : FuncData} (F : DefF K mg "_law_refusals" s__law_refusals ["box", "p", "terms"] f fd) : Cal P w K mg base 8 "_law_refusals" (sp__law_refusals K A_Poly) := by
  refine cal_of F sc__law_refusals (fun vs H Q E h => by obtain ⟨_, _, _, _, _, _, rfl, _⟩ := h; rfl) (fun cdv A outer s H vs Q E hr h => ?_)
  obtain ⟨b, c, p, l, ts, us, rfl, B, neb, hp, hl, ex, lt, exu, ltu, dlu, cbu, q⟩ := h
  have z8 : (1000000 : Nat) ≤ sizeLine := by decide
  refine ⟨_, (pss_cons (ps_set (i := 3) sc__law_refusals.nd rfl (Or.inr rfl) pe_str)
 (pss_cons (ps_set (i := 4) sc__law_refusals.nd rfl (Or.inl rfl) (pe_bm PySem.F.plainAttrs_str PySem.F.slot_str_join PySem.F.type_str_join (k_join (K := K) rfl) pe_str (pa_cons (pe_lc (own := [("k", 11)]) (g := gName 11) rfl sc__law_refusals.nd (pi_range1 (by rfl) T.z_range (pa_cons (pe_cc C__law_draw hr (by decide) (by rfl) (pa_cons (pv 0) (pa_cons pe_int pa_nil))) pa_nil)) (blkOk_by (own := [("k", 11)]) (N := ["box", "p", "terms", "letters", "name", "door", "c", "e", "bad", "place", "wrong", "k"]) (sc := defScope s__law_refusals) (by decide +kernel)) (fun _ _ _ _ _ => pg_name (i := 11) sc__law_refusals.nd rfl (Or.inl rfl)) (fun _ _ _ _ _ => pts_nil) (fun _ _ _ _ _ => (pe_ix ix_str (pv 3) (pe_cc C__law_draw hr (by decide) (by rfl) (pa_cons (pv 0) (pa_cons pe_int pa_nil))) (fun _ _ => rfl)))) pa_nil)))
 (Evl.pss_cut (ps_if (pt_cmpR op_eq (pe_cc C__law_draw hr (by decide) (by rfl) (pa_cons (pv 0) (pa_cons pe_int pa_nil))) pe_int (nomark _)) (pss_one (ps_set (i := 4) sc__law_refusals.nd rfl (Or.inl rfl) (pe_ix (k_ixL (K := K) rfl) (pe_lst (pa_cons pe_str (pa_cons pe_str (pa_cons pe_str (pa_cons pe_str (pa_cons pe_str (pa_cons pe_str pa_nil))))))) (pe_cc C__law_draw hr (by decide) (by rfl) (pa_cons (pv 0) (pa_cons pe_int pa_nil))) (fun _ _ => rfl)))) pss_nil)
 (pss_cons (ps_for PassesOwn.never rfl (pi_range1 (by rfl) T.z_range (pa_cons pe_int pa_nil)) (pg_name (i := 5) sc__law_refusals.nd rfl (Or.inl rfl)) (pss_one (ps_if (pt_not (pt_val (pe_cc C__law_refuses_name hr (by decide) (by rfl) (pa_cons (pv 1) (pa_cons (pv 5) (pa_cons (pv 4) pa_nil)))))) (pss_one (ps_ret pe_bl)) pss_nil)))
 (pss_cons (ps_par (i := 6) (j := 7) (by rfl) sc__law_refusals.nd rfl rfl (by decide) rfl rfl (pa_cons (pe_op op_sub (pe_cc C__law_draw hr (by decide) (by rfl) (pa_cons (pv 0) (pa_cons pe_int pa_nil))) pe_int) (pa_cons (pe_cc C__law_draw hr (by decide) (by rfl) (pa_cons (pv 0) (pa_cons pe_int pa_nil))) pa_nil)) (by rfl))
 (pss_cons (ps_set (i := 8) sc__law_refusals.nd rfl (Or.inl rfl) (pe_lst (pa_cons (pe_tup (pa_cons (pv 6) (pa_cons (pv 7) (pa_cons pe_int pa_nil)))) (pa_cons (pe_tup (pa_cons (pv 6) (pa_cons (pv 7) (pa_cons pe_int (pa_cons pe_int (pa_cons pe_int pa_nil)))))) (pa_cons (pe_lst (pa_cons (pv 6) (pa_cons (pv 7) (pa_cons pe_int (pa_cons pe_int pa_nil))))) (pa_cons (pe_tup (pa_cons pe_bl (pa_cons (pv 7) (pa_cons pe_int (pa_cons pe_int pa_nil))))) (pa_cons (pe_tup (pa_cons (pv 6) (pa_cons pe_bl (pa_cons pe_int (pa_cons pe_int pa_nil))))) (pa_cons (pe_tup (pa_cons (pv 6) (pa_cons (pv 7) (pa_cons pe_int (pa_cons pe_bl pa_nil))))) pa_nil))))))))
 (pss_cons (ps_set (i := 8) sc__law_refusals.nd rfl (Or.inl rfl) (pe_op op_cat (pv 8) (pe_lst (pa_cons (pe_tup (pa_cons (pv 6) (pa_cons (pe_op op_sub (pe_un un_neg pe_int) (pv 7)) (pa_cons pe_int (pa_cons pe_int pa_nil))))) (pa_cons (pe_tup (pa_cons (pv 6) (pa_cons pe_int (pa_cons (pe_un un_neg pe_int) (pa_cons pe_int pa_nil))))) (pa_cons (pe_tup (pa_cons pe_int (pa_cons pe_int (pa_cons pe_int (pa_cons (pe_op op_sub (pe_un un_neg pe_int) (pv 7)) pa_nil))))) (pa_cons pe_non (pa_cons (pv 6) (pa_cons pe_str (pa_cons (pe_tup (pa_cons (pv 6) (pa_cons (pv 7) (pa_cons pe_str (pa_cons pe_int pa_nil))))) pa_nil))))))))))
 (pss_cons (ps_set (i := 8) sc__law_refusals.nd rfl (Or.inl rfl) (pe_op op_cat (pv 8) (pe_lst (pa_cons (pe_tup (pa_cons (pv 6) (pa_cons pe_non (pa_cons pe_int (pa_cons pe_int pa_nil))))) (pa_cons (pe_tup (pa_cons (pe_tup (pa_cons (pv 6) pa_nil)) (pa_cons (pv 7) (pa_cons pe_int (pa_cons pe_int pa_nil))))) (pa_cons (pe_tup pa_nil) pa_nil))))))
 (pss_cons (ps_set (i := 9) sc__law_refusals.nd rfl (Or.inl rfl) (pe_cc C__law_draw hr (by decide) (by rfl) (pa_cons (pv 0) (pa_cons (pe_op op_add (pe_callB (k_len (K := K) rfl) (by rfl) T.z_len PySem.boot_len (pa_cons (pv 2) pa_nil)) pe_int) pa_nil))))
 (pss_cons (ps_set (i := 10) sc__law_refusals.nd rfl (Or.inl rfl) (pe_op op_cat (pe_op op_cat (pe_slice (k_slL (K := K) rfl) (pv 2) po_none (po_some (pv 9))) (pe_lst (pa_cons (pe_ix (k_ixL (K := K) rfl) (pv 8) (pe_cc C__law_draw hr (by decide) (by rfl) (pa_cons (pv 0) (pa_cons pe_int pa_nil))) (fun _ _ => rfl)) pa_nil))) (pe_slice (k_slL (K := K) rfl) (pv 2) (po_some (pv 9)) po_none)))
 (pss_cons (ps_if (PW.pt (pw_or (pt_not (pt_val (pe_cc C__law_refuses_terms hr (by decide) (by rfl) (pa_cons (pe_callTy (k_list (K := K) rfl) (by rfl) T.z_list (by decide +kernel) (pa_cons (pv 10) pa_nil)) pa_nil)))) (pw_or1 (pt_not (pt_val (pe_cc C__law_refuses_terms hr (by decide) (by rfl) (pa_cons (pe_callTy (k_tuple (K := K) rfl) (by rfl) T.z_tuple (by decide +kernel) (pa_cons (pv 10) pa_nil)) pa_nil))))))) (pss_one (ps_ret pe_bl)) pss_nil)
 (pss_one (ps_ret (pe_cc C__law_refuses_terms hr (by decide) (by rfl) (pa_cons (pe_op op_cat (pe_op op_cat (pe_lst (pa_cons (pe_tup (pa_cons (pv 6) (pa_cons pe_int (pa_cons (pe_op op_sub (pe_un un_neg pe_int) (pv 7)) (pa_cons pe_int pa_nil))))) pa_nil)) (pv 2)) (pe_lst (pa_cons (pe_tup (pa_cons (pe_un un_neg (pv 6)) (pa_cons pe_int (pa_cons (pe_op op_sub (pe_un un_neg pe_int) (pv 7)) (pa_cons pe_int pa_nil))))) pa_nil))) pa_nil))))))))))))))), ?_⟩
  refine w_start (σ := [some _, some _, some _, none, none, none, none, none, none, none, none, none]) rfl ?_
  walk_at "go"
  refine ⟨b, c, 4, rfl, B, by decide, by decide, fun r1 H1 r10 r11 c1 B1 => ?_⟩
  walk_at "go"
  refine w_iR1r (by omega) (by omega) ?_
  refine lc_box (b := b) (c := c) (fun v => ∃ c, v = .str (S [c]) ∧ c ∈ LT) rfl (by omega) B1 ?_ ?_
  · intro k H4 hk c4 B4 S0 hS
    walk_at "go"
    refine ⟨b, c, 32, rfl, B4, by decide, by decide, fun r2 H5 r20 r21 c5 B5 => ?_⟩
    obtain ⟨m, rfl⟩ : ∃ m : Nat, r2 = (m : Int) := ⟨r2.toNat, by omega⟩
    have hlt : m < LT.length := by rw [LT_len]; omega
    have gl : LT[m]? = some LT[m] := List.getElem?_eq_getElem hlt
    refine w_ixS (by decide +kernel) (c := LT[m]) (show atI LT ((m : Nat) : Int) = some LT[m] from atI_nat gl) ?_
    exact hS _ H5 c5 B5 ⟨_, rfl, List.getElem_mem hlt⟩
  intro D H2 out nD c2 B2 lo pr hD
  obtain ⟨cs, rfl, lcs, mcs⟩ := chars_of pr
  have c12 := c1.trans c2
  have lc4 : cs.length ≤ 4 := by
    rw [lcs, lo]
    omega
  walk_at "go"
  rw [lit_empty]
  refine w_joinS (.of hD) (by rw [sum_one, List.length_map]; show cs.length + cs.length * 0 ≤ 16777216; omega) ?_
  rw [joinL_nil, flat_one]
  walk_at "go"
  refine w_cut (M := fun σ' H' => Ch [b] H H' ∧ Box H' b c ∧ ∃ z z1, NoUnk z ∧ σ' = [some (.ref b), some (.ref p), some (.ref l), z1, some (.str z), none, none, none, none, none, none, none]) ?_ ?_
  · walk_at "go"
    refine ⟨b, c, 3, rfl, B2, by decide, by decide, fun r3 H3 r30 r31 c3 B3 => ?_⟩
    walk_at "go"
    refine ite_d (fun h => ?_) (fun h => ?_)
    · walk_at "go"
      refine w_newL (show 6 ≤ sizeLine by decide) fun l6 H4 n4 c4 h4 => ?_
      walk_at "go"
      refine ⟨b, c, 6, rfl, B3.mono c4, by decide, by decide, fun r4 H5 r40 r41 c5 B5 => ?_⟩
      have ne6 := ((B3.ne n4).1).symm
      have h4 := c5.at1 ne6 h4
      obtain ⟨z, hz, mz⟩ : ∃ z : Str, ([V.str (Str.ofString "xy"), .str (Str.ofString "xx"), .str (Str.ofString "x "), .str (Str.ofString " z"), .str (Str.ofString "X"), .str (Str.ofString "yz")])[r4.toNat]? = some (.str z) ∧ z ∈ [Str.ofString "xy", Str.ofString "xx", Str.ofString "x ", Str.ofString " z", Str.ofString "X", Str.ofString "yz"] := by
        have : r4.toNat < 6 := by omega
        generalize r4.toNat = k at this ⊢
        obtain rfl | rfl | rfl | rfl | rfl | rfl : k = 0 ∨ k = 1 ∨ k = 2 ∨ k = 3 ∨ k = 4 ∨ k = 5 := by omega
        all_goals exact ⟨_, rfl, by simp⟩
      refine w_ixL (.of h4) (atI_at (k := r4.toNat) (by omega) hz) ?_
      exact ⟨((c12.trans c3).trans0 c4).trans c5, B5, z, _, noUnk_six z mz, rfl⟩
    · walk_at "go"
      exact ⟨c12.trans c3, B3, _, _, noUnk_cs mcs, rfl⟩
  rintro σ' H3 ⟨c3, B3, z, z1, nu, rfl⟩
  walk_at "go"
  refine w_iR1r (by decide) (by decide) ?_
  refine for_R (n := 7) (fun i σ H' => Ch [] H3 H' ∧ ∃ z2, σ = [some (.ref b), some (.ref p), some (.ref l), z1, some (.str z), z2, none, none, none, none, none, none])
    ⟨.refl, _, rfl⟩ ?_ ?_
  · rintro i σ H' hi ⟨cc, z2, rfl⟩
    walk_at "go"
    refine ⟨p, _, z, us, rfl, hp.ch (c3.trans0 cc), exu, ltu, dlu, cbu, nu, fun H4 c4 => ?_⟩
    refine ⟨_, rfl, ?_⟩
    walk_at "go"
    exact ⟨cc.trans c4, _, rfl⟩
  rintro σ H4 ⟨c4, z2, rfl⟩
  have B4 := B3.mono c4
  have c4 := c3.trans0 c4
  clear c1 c2 c12 c3 B1 B2 B3 hD
  walk_at "go"
  refine ⟨b, c, 9, rfl, B4, by decide, by decide, fun r5 H5 r50 r51 c5 B5 => ?_⟩
  walk_at "go"
  refine ⟨b, c, 3, rfl, B5, by decide, by decide, fun e H6 e0' e1' c6 B6 => ?_⟩
  have c6 := (c4.trans c5).trans c6
  clear c4 c5 B4 B5
  have hl6 := hl.ch1 neb c6
  walk_at "go"
  refine w_newT (show 3 ≤ sizeLine by decide) fun a0 H7 n7 c7 h7 => ?_
  walk_at "go"
  refine w_newT (show 5 ≤ sizeLine by decide) fun a1 H8 n8 c8 h8 => ?_
  walk_at "go"
  refine w_newL (show 4 ≤ sizeLine by decide) fun a2 H9 n9 c9 h9 => ?_
  walk_at "go"
  refine w_newT (show 4 ≤ sizeLine by decide) fun a3 H10 n10 c10 h10 => ?_
  walk_at "go"
  refine w_newT (show 4 ≤ sizeLine by decide) fun a4 H11 n11 c11 h11 => ?_
  walk_at "go"
  refine w_newT (show 4 ≤ sizeLine by decide) fun a5 H12 n12 c12 h12 => ?_
  walk_at "go"
  refine w_newL (show 6 ≤ sizeLine by decide) fun bA H13 n13 c13 hA => ?_
  walk_at "go"
  refine w_newT (show 4 ≤ sizeLine by decide) fun a6 H14 n14 c14 h14 => ?_
  walk_at "go"
  refine w_newT (show 4 ≤ sizeLine by decide) fun a7 H15 n15 c15 h15 => ?_
  walk_at "go"
  refine w_newT (show 4 ≤ sizeLine by decide) fun a8 H16 n16 c16 h16 => ?_
  walk_at "go"
  refine w_newT (show 4 ≤ sizeLine by decide) fun a12 H17 n17 c17 h17 => ?_
  walk_at "go"
  refine w_newL (show 7 ≤ sizeLine by decide) fun bB H18 n18 c18 hB => ?_
  walk_at "go"
  refine w_cat (c18.at0 ((c14.trans (c15.trans (c16.trans c17))).at0 hA)) hB (show 6 + 7 ≤ sizeLine by decide) fun bC H19 n19 c19 hC => ?_
  walk_at "go"
  refine w_newT (show 4 ≤ sizeLine by decide) fun a13 H20 n20 c20 h20 => ?_
  walk_at "go"
  refine w_newT (show 1 ≤ sizeLine by decide) fun ai H21 n21 c21 h21 => ?_
  walk_at "go"
  refine w_newT (show 4 ≤ sizeLine by decide) fun a14 H22 n22 c22 h22 => ?_
  walk_at "go"
  refine w_newT (show 0 ≤ sizeLine by decide) fun a15 H23 n23 c23 h23 => ?_
  walk_at "go"
  refine w_newL (show 3 ≤ sizeLine by decide) fun bD H24 n24 c24 hD => ?_
  walk_at "go"
  refine w_cat ((c20.trans (c21.trans (c22.trans (c23.trans c24)))).at0 hC) hD (show 6 + 7 + 3 ≤ sizeLine by decide) fun bE H25 n25 c25 hE => ?_
  walk_at "go"
  have d24 : Ch [] H24 H25 := c25
  have d23 : Ch [] H23 H25 := c24.trans d24
  have d22 : Ch [] H22 H25 := c23.trans d23
  have d21 : Ch [] H21 H25 := c22.trans d22
  have d20 : Ch [] H20 H25 := c21.trans d21
  have d19 : Ch [] H19 H25 := c20.trans d20
  have d18 : Ch [] H18 H25 := c19.trans d19
  have d17 : Ch [] H17 H25 := c18.trans d18
  have d16 : Ch [] H16 H25 := c17.trans d17
  have d15 : Ch [] H15 H25 := c16.trans d16
  have d14 : Ch [] H14 H25 := c15.trans d15
  have d13 : Ch [] H13 H25 := c14.trans d14
  have d12 : Ch [] H12 H25 := c13.trans d13
  have d11 : Ch [] H11 H25 := c12.trans d12
  have d10 : Ch [] H10 H25 := c11.trans d11
  have d9 : Ch [] H9 H25 := c10.trans d10
  have d8 : Ch [] H8 H25 := c9.trans d9
  have d7 : Ch [] H7 H25 := c8.trans d8
  have d6 : Ch [] H6 H25 := c7.trans d7
  have nb9 : a2 ≠ b := ((B6.mono (c7.trans c8)).ne n9).1.symm
  have bads : ∀ v ∈ ([V.ref a0, .ref a1, .ref a2, .ref a3, .ref a4, .ref a5] ++ [.ref a6, .ref a7, .ref a8, .non, .int (r5 - 4), .str (Str.ofString "1000"), .ref a12] ++ [.ref a13, .ref a14, .ref a15] : List V), ∀ H', Ch [b] H25 H' → Itm K H' false v := by
    intro v m HH cc
    have d7 := d7.of0.trans cc
    have d8 := d8.of0.trans cc
    have d9 := d9.of0.trans cc
    have d10 := d10.of0.trans cc
    have d11 := d11.of0.trans cc
    have d12 := d12.of0.trans cc
    have d14 := d14.of0.trans cc
    have d15 := d15.of0.trans cc
    have d16 := d16.of0.trans cc
    have d17 := d17.of0.trans cc
    have d20 := d20.of0.trans cc
    have d21 := d21.of0.trans cc
    have d22 := d22.of0.trans cc
    have d23 := d23.of0.trans cc
    simp only [List.cons_append, List.nil_append, List.mem_cons, List.not_mem_nil, or_false] at m
    have ki : ∀ x : V, (∃ i, x = .int i) → (∃ i, x = .int i) ∨ (∃ b, x = .bl b) ∨ ∃ ty, TyOf K HH x (.type ty) ∧ PySem.W.kitOne K (.type ty) (.type "int") = some false := fun x h => .inl h
    rcases m with rfl | rfl | rfl | rfl | rfl | rfl | rfl | rfl | rfl | rfl | rfl | rfl | rfl | rfl | rfl | rfl
    · exact .len (d7.sqT (.of h7)) (show 3 ≠ 4 by decide) (show 3 ≤ 1000 by decide)
    · exact .len (d8.sqT (.of h8)) (show 5 ≠ 4 by decide) (show 5 ≤ 1000 by decide)
    · exact .noTup (ty := "list") (.lst (d9.at1 nb9 h9)) (kit_ty (by decide +kernel))
    · exact .part (d10.sqT (.of h10)) rfl (fun x m => by
        simp only [List.mem_cons, List.not_mem_nil, or_false] at m
        rcases m with rfl | rfl | rfl | rfl
        · exact .inr (.inl ⟨_, rfl⟩)
        all_goals exact .inl ⟨_, rfl⟩) ⟨.bl true, by simp, fun i h => nomatch h⟩
    · exact .part (d11.sqT (.of h11)) rfl (fun x m => by
        simp only [List.mem_cons, List.not_mem_nil, or_false] at m
        rcases m with rfl | rfl | rfl | rfl
        · exact .inl ⟨_, rfl⟩
        · exact .inr (.inl ⟨_, rfl⟩)
        all_goals exact .inl ⟨_, rfl⟩) ⟨.bl true, by simp, fun i h => nomatch h⟩
    · exact .part (d12.sqT (.of h12)) rfl (fun x m => by
        simp only [List.mem_cons, List.not_mem_nil, or_false] at m
        rcases m with rfl | rfl | rfl | rfl
        · exact .inl ⟨_, rfl⟩
        · exact .inl ⟨_, rfl⟩
        · exact .inl ⟨_, rfl⟩
        · exact .inr (.inl ⟨_, rfl⟩)) ⟨.bl false, by simp, fun i h => nomatch h⟩
    · exact itm_bad (t := ⟨r5 - 4, -1 - e, 0, 0⟩) (d14.sqT (.of h14)) (.inl (by show -1 - e < 0; omega))
    · exact itm_bad (t := ⟨r5 - 4, 1, -1, 0⟩) (d15.sqT (.of h15)) (.inr (.inl (by show (-1 : Int) < 0; decide)))
    · exact itm_bad (t := ⟨0, 0, 0, -1 - e⟩) (d16.sqT (.of h16)) (.inr (.inr (by show -1 - e < 0; omega)))
    · exact .noTup (ty := "NoneType") .non (kit_ty (by decide +kernel))
    · exact .noTup (ty := "int") (.int _) (kit_ty (by decide +kernel))
    · exact .noTup (ty := "str") (.str _) (kit_ty (by decide +kernel))
    · exact .part (d17.sqT (.of h17)) rfl (fun x m => by
        simp only [List.mem_cons, List.not_mem_nil, or_false] at m
        rcases m with rfl | rfl | rfl | rfl
        · exact .inl ⟨_, rfl⟩
        · exact .inl ⟨_, rfl⟩
        · exact .inr (.inr ⟨"str", .str _, kit_ty (by decide +kernel)⟩)
        · exact .inl ⟨_, rfl⟩) ⟨.str (Str.ofString "0"), by simp, fun i h => nomatch h⟩
    · exact .part (d20.sqT (.of h20)) rfl (fun x m => by
        simp only [List.mem_cons, List.not_mem_nil, or_false] at m
        rcases m with rfl | rfl | rfl | rfl
        · exact .inl ⟨_, rfl⟩
        · exact .inr (.inr ⟨"NoneType", .non, kit_ty (by decide +kernel)⟩)
        · exact .inl ⟨_, rfl⟩
        · exact .inl ⟨_, rfl⟩) ⟨.non, by simp, fun i h => nomatch h⟩
    · exact .part (d22.sqT (.of h22)) rfl (fun x m => by
        simp only [List.mem_cons, List.not_mem_nil, or_false] at m
        rcases m with rfl | rfl | rfl | rfl
        · exact .inr (.inr ⟨"tuple", .tup (d21.tup h21), kit_ty (by decide +kernel)⟩)
        all_goals exact .inl ⟨_, rfl⟩) ⟨.ref ai, by simp, fun i h => nomatch h⟩
    · exact .len (d23.sqT (.of h23)) (by decide) (by decide)
  have hl25 := hl6.ch0 d6
  have B25 := B6.mono d6
  have nbE : b ≠ bE := (B6.mono (by exact (c7.trans (c8.trans (c9.trans (c10.trans (c11.trans (c12.trans (c13.trans (c14.trans (c15.trans (c16.trans (c17.trans (c18.trans (c19.trans (c20.trans (c21.trans (c22.trans (c23.trans c24))))))))))))))))))).ne n25 |>.1
  have hbE : H25 bE = some (.lst ([V.ref a0, .ref a1, .ref a2, .ref a3, .ref a4, .ref a5] ++ [.ref a6, .ref a7, .ref a8, .non, .int (r5 - 4), .str (Str.ofString "1000"), .ref a12] ++ [.ref a13, .ref a14, .ref a15])) := hE
  have cX := c6.trans0 d6
  clear hE hC hA hB
  clear d24 d23 d22 d21 d20 d19 d18 d17 d16 d15 d14 d13 d12 d11 d10 d9 d8 d7 d6
  clear h7 h8 h9 h10 h11 h12 h14 h15 h16 h17 h20 h21 h22 h23
  generalize hbl : ([V.ref a0, .ref a1, .ref a2, .ref a3, .ref a4, .ref a5] ++ [.ref a6, .ref a7, .ref a8, .non, .int (r5 - 4), .str (Str.ofString "1000"), .ref a12] ++ [.ref a13, .ref a14, .ref a15] : List V) = BL at bads hbE
  have lBL : BL.length = 16 := by rw [← hbl]; rfl
  obtain ⟨ys, hys, hym⟩ := hl25
  have lys := hym.len
  walk_at "go"
  refine ⟨b, c, _, rfl, B25, by omega, by omega, fun r6 H26 r60 r61 c26 B26 => ?_⟩
  have hys := c26.at1 neb hys
  have hbE := c26.at1 nbE.symm hbE
  have hym := hym.chm c26
  have bads : ∀ v ∈ BL, ∀ H', Ch [b] H26 H' → Itm K H' false v := fun v m H' c' => bads v m H' (c26.trans c')
  walk_at "go"
  refine w_slL (.of hys) fun s1 H27 n27 c27 h27 => ?_
  rw [cutV_to (k := r6.toNat) (by omega) (by omega)] at h27
  walk_at "go"
  refine ⟨b, c, 16, rfl, B26.mono c27, by decide, by decide, fun r7 H28 r70 r71 c28 B28 => ?_⟩
  have hbE := c28.at1 nbE.symm (c27.at0 hbE)
  have ne27 : s1 ≠ b := ((B26.ne n27).1).symm
  have h27 := c28.at1 ne27 h27
  have hys := c28.at1 neb (c27.at0 hys)
  obtain ⟨bv, hbv⟩ : ∃ bv, BL[r7.toNat]? = some bv := ⟨_, List.getElem?_eq_getElem (by omega)⟩
  have mbv := List.mem_of_getElem? hbv
  refine w_ixL (.of hbE) (atI_at (k := r7.toNat) (by omega) hbv) ?_
  walk_at "go"
  refine w_newL (show 1 ≤ sizeLine by decide) fun l29 H29 n29 c29 h29 => ?_
  refine w_cat (c29.at0 h27) h29 (by rw [List.length_take]; simp only [List.length_cons, List.length_nil]; omega) fun l30 H30 n30 c30 h30 => ?_
  walk_at "go"
  refine w_slL (.of (c30.at0 (c29.at0 hys))) fun s2 H31 n31 c31 h31 => ?_
  rw [cutV_from (k := r6.toNat) (by omega)] at h31
  refine w_cat (c31.at0 h30) h31 (by rw [List.length_append, List.length_take, List.length_drop]; simp only [List.length_cons, List.length_nil]; omega) fun wr H32 n32 c32 h32 => ?_
  have cW := c28.trans0 (c29.trans (c30.trans (c31.trans c32)))
  have cW2 := (c27.of0 (L := [b])).trans cW
  have ib : Itm K H32 false bv := bads bv mbv H32 cW2
  have hymW := hym.chm cW2
  have eg := itm_good hymW ex
  have eW : Els (fun b v H => Itm K H b v) H32 (ys.take r6.toNat ++ [bv] ++ ys.drop r6.toNat) ((ts.map fun _ => true).take r6.toNat ++ [false] ++ (ts.map fun _ => true).drop r6.toNat) := ((eg.take _).app (Els.nil.snoc ib)).app (eg.drop _)
  have fW : false ∈ ((ts.map fun _ => true).take r6.toNat ++ [false] ++ (ts.map fun _ => true).drop r6.toNat) := by simp
  have lW : (ys.take r6.toNat ++ [bv] ++ ys.drop r6.toNat).length ≤ 20 := by
    rw [List.length_append, List.length_append, List.length_take, List.length_drop]
    simp only [List.length_cons, List.length_nil]
    omega
  have cT := ((cX.trans c26).trans0 c27).trans cW
  have BT := ((B28.mono c29).mono (c30.trans (c31.trans c32)))
  have hys := (c29.trans (c30.trans (c31.trans c32))).at0 hys
  clear c26 c27 c28 c29 c30 c31 cW cW2 cX hbE B25 B26 B28 h27 h29 h30 h31 bads hym eg ib
  generalize (ys.take r6.toNat ++ [bv] ++ ys.drop r6.toNat) = WX at h32 eW lW
  walk_at "go"
  refine w_listL (.of h32) fun w1 H33 n33 c33 h33 => ?_
  walk_at "go"
  refine ⟨w1, WX, _, false, rfl, h33, eW.imp fun b v _ h => h.keep fun a o e => c33.at0 e, fW, by omega, fun H34 c34 => ?_⟩
  refine ⟨_, rfl, ?_⟩
  have c34 := c33.trans c34
  walk_at "go"
  refine w_tupleL (.of (c34.at0 h32)) fun w2 H35 n35 c35 h35 => ?_
  have c35 := c34.trans c35
  walk_at "go"
  refine ⟨w2, WX, _, true, rfl, .of h35, eW.imp fun b v _ h => h.keep fun a o e => c35.at0 e, fW, by omega, fun H36 c36 => ?_⟩
  refine ⟨_, rfl, ?_⟩
  have c36 := c35.trans c36
  walk_at "go"
  refine w_newT (show 4 ≤ sizeLine by decide) fun u1 H37 n37 c37 h37 => ?_
  walk_at "go"
  refine w_newL (show 1 ≤ sizeLine by decide) fun u2 H38 n38 c38 h38 => ?_
  have c38' := c37.trans c38
  walk_at "go"
  refine w_cat h38 ((c36.trans c38').at0 hys) (by simp only [List.length_cons, List.length_nil]; omega) fun u3 H39 n39 c39 h39 => ?_
  walk_at "go"
  refine w_newT (show 4 ≤ sizeLine by decide) fun u4 H40 n40 c40 h40 => ?_
  walk_at "go"
  refine w_newL (show 1 ≤ sizeLine by decide) fun u5 H41 n41 c41 h41 => ?_
  refine w_cat (c41.at0 (c40.at0 h39)) h41 (by simp only [List.length_append, List.length_cons, List.length_nil]; omega) fun u6 H42 n42 c42 h42 => ?_
  walk_at "go"
  have cZ := c38'.trans (c39.trans (c40.trans (c41.trans c42)))
  have b1 : Itm K H42 false (.ref u1) := itm_bad (t := ⟨r5 - 4, 0, -1 - e, 0⟩) ((c38.trans (c39.trans (c40.trans (c41.trans c42)))).sqT (.of h37)) (.inr (.inl (by show -1 - e < 0; omega)))
  have b2 : Itm K H42 false (.ref u4) := itm_bad (t := ⟨-(r5 - 4), 0, -1 - e, 0⟩) ((c41.trans c42).sqT (.of h40)) (.inr (.inl (by show -1 - e < 0; omega)))
  have e0 := itm_good (hymW.chm (c36.trans cZ)) ex
  refine ⟨u6, [V.ref u1] ++ ys ++ [V.ref u4], [false] ++ (ts.map fun _ => true) ++ [false], false, rfl, (show SqS K false H42 u6 ([.ref u1] ++ ys ++ [.ref u4]) from h42), ?_, by simp, by simp only [List.length_append, List.length_cons, List.length_nil]; omega, fun H43 c43 => ?_⟩
  · exact ((Els.nil.snoc b1).app e0).app (Els.nil.snoc b2)
  have cY := c36.trans (cZ.trans c43)
  exact q H43 (cT.trans0 cY) (BT.mono cY)
end
end My
namespace My
open PySem PySem.Spec PyProof.Rows L2
theorem OkTs.fin {ts us : List Tm} (h : OkTs ts) (l : ts.length ≤ 17) (n : Nf us) (e : ∀ e, cf us e = cf ts e) : Fin0 146 12 us :=
  Fin0.of (z := 140) (y := 5) n e (fun t m => (h t m).c) (by omega) h.exp fun t m => ⟨(h t m).i1, (h t m).j1, (h t m).k1⟩
theorem Fin0.dl {z k n : Nat} {ts : List Tm} (h : Fin0 z k ts) : degI n ts ≤ k := degI_le12 h.i
section
variable {P : Program} {w : World} {K : PySem.W.Frag} {mg : Str → Option Value} {base : Heap}
abbrev s_law : Stmt := topS 60
theorem sc_law : FnScope ["script", "box", "great", "terms", "others", "a", "b", "p", "q", "point", "at"] ["script"] (defScope s_law) := ⟨rfl, rfl, rfl, by decide +kernel, rfl, by decide +kernel, by decide +kernel⟩
def sp_law (K : PySem.W.Frag) : Sp := fun vs H Q _ => ∃ (a : Addr) (ns : List Int), vs = [.ref a] ∧ SqL K H a (ivs ns) ∧ ns.length ≤ 63 ∧ ∀ H', Q (.bl true) H'
theorem c_law {A_Poly : Addr} (T : Txt mg) (C__law_box : Cal P w K mg base 1 "_law_box" (sp__law_box K)) (C__law_draw : Cal P w K mg base 2 "_law_draw" sp__law_draw) (C__law_terms : Cal P w K mg base 4 "_law_terms" (sp__law_terms K)) (C__law_second : Cal P w K mg base 5 "_law_second" (sp__law_second K))
    (C__law_gather : Cal P w K mg base 1 "_law_gather" (sp__law_gather K)) (C__law_made : Cal P w K mg base 5 "_law_made" (sp__law_made K A_Poly)) (C__law_is : Cal P w K mg base 2 "_law_is" (sp__law_is K A_Poly)) (C__law_operators : Cal P w K mg base 10 "_law_operators" (sp__law_operators K A_Poly))
    (C__law_simple : Cal P w K mg base 8 "_law_simple" (sp__law_simple K)) (C__law_fraction : Cal P w K mg base 4 "_law_fraction" (sp__law_fraction K)) (C__law_whole : Cal P w K mg base 8 "_law_whole" (sp__law_whole K A_Poly)) (C__law_parts : Cal P w K mg base 8 "_law_parts" (sp__law_parts K A_Poly)) (C__law_refusals : Cal P w K mg base 8 "_law_refusals" (sp__law_refusals K A_Poly))
    {f : Addr} {fd : FuncData} (F : DefF K mg "law" s_law ["script"] f fd) : FnOk P w K mg base (L2.CX P w) 11 f fd ["script"] (sp_law K) := by
  refine F.fn.okX sc_law (fun vs H Q E h => by obtain ⟨_, _, rfl, _⟩ := h; rfl) (fun cdv A outer s0 H vs Q E hr h => ?_)
  obtain ⟨a0, ns, rfl, hs, hl, q⟩ := h
  refine ⟨_, ((pss_cons (ps_set (i := 1) sc_law.nd rfl (Or.inl rfl) (pe_cc C__law_box hr (by decide) (by rfl) (pa_cons (pv 0) pa_nil)))
 (pss_cons (ps_set (i := 2) sc_law.nd rfl (Or.inl rfl) pe_int)
 (Evl.pss_cut (ps_if (pt_cmpR op_eq (pe_cc C__law_draw hr (by decide) (by rfl) (pa_cons (pv 1) (pa_cons pe_int pa_nil))) pe_int (nomark _)) (pss_one (ps_set (i := 2) sc_law.nd rfl (Or.inl rfl) (pe_op op_add pe_int (pe_cc C__law_draw hr (by decide) (by rfl) (pa_cons (pv 1) (pa_cons pe_int pa_nil)))))) pss_nil)
 (pss_cons (ps_set (i := 3) sc_law.nd rfl (Or.inl rfl) (pe_cc C__law_terms hr (by decide) (by rfl) (pa_cons (pv 1) (pa_cons (pv 2) pa_nil))))
 (pss_cons (ps_set (i := 4) sc_law.nd rfl (Or.inl rfl) (pe_cc C__law_second hr (by decide) (by rfl) (pa_cons (pv 1) (pa_cons (pv 3) (pa_cons (pv 2) pa_nil)))))
 (pss_cons (ps_par (i := 5) (j := 6) (by rfl) sc_law.nd rfl rfl (by decide) rfl rfl (pa_cons (pe_cc C__law_gather hr (by decide) (by rfl) (pa_cons (pv 3) pa_nil)) (pa_cons (pe_cc C__law_gather hr (by decide) (by rfl) (pa_cons (pv 4) pa_nil)) pa_nil)) (by rfl))
 (pss_cons (ps_set (i := 7) sc_law.nd rfl (Or.inl rfl) (pe_cc C__law_made hr (by decide) (by rfl) (pa_cons (pv 3) (pa_cons (pe_cmpR op_eq (pe_cc C__law_draw hr (by decide) (by rfl) (pa_cons (pv 1) (pa_cons pe_int pa_nil))) pe_int (nomark _)) pa_nil))))
 (pss_cons (ps_set (i := 8) sc_law.nd rfl (Or.inl rfl) (pe_cc C__law_made hr (by decide) (by rfl) (pa_cons (pv 4) (pa_cons (pe_cmpR op_eq (pe_cc C__law_draw hr (by decide) (by rfl) (pa_cons (pv 1) (pa_cons pe_int pa_nil))) pe_int (nomark _)) pa_nil))))
 (pss_cons (ps_if (PW.pt (pw_or (pt_not (pt_val (pe_cc C__law_is hr (by decide) (by rfl) (pa_cons (pv 7) (pa_cons (pv 5) pa_nil))))) (pw_or (pt_not (pt_val (pe_cc C__law_is hr (by decide) (by rfl) (pa_cons (pv 8) (pa_cons (pv 6) pa_nil))))) (pw_or1 (pt_not (pt_val (pe_cc C__law_operators hr (by decide) (by rfl) (pa_cons (pv 7) (pa_cons (pv 8) (pa_cons (pv 5) (pa_cons (pv 6) pa_nil))))))))))) (pss_one (ps_ret pe_bl)) pss_nil)
 (pss_cons (ps_if (pt_not (pt_val (pe_cc C__law_simple hr (by decide) (by rfl) (pa_cons (pv 1) (pa_cons (pv 2) pa_nil))))) (pss_one (ps_ret pe_bl)) pss_nil)
 (pss_cons (ps_set (i := 9) sc_law.nd rfl (Or.inl rfl) (pe_tup (pa_cons (pe_cc C__law_fraction hr (by decide) (by rfl) (pa_cons (pv 1) pa_nil)) (pa_cons (pe_cc C__law_fraction hr (by decide) (by rfl) (pa_cons (pv 1) pa_nil)) (pa_cons (pe_cc C__law_fraction hr (by decide) (by rfl) (pa_cons (pv 1) pa_nil)) pa_nil)))))
 (pss_cons (ps_if (pt_not (pt_val (pe_cc C__law_whole hr (by decide) (by rfl) (pa_cons (pv 7) (pa_cons (pv 5) (pa_cons (pv 9) pa_nil)))))) (pss_one (ps_ret pe_bl)) pss_nil)
 (pss_cons (ps_for PassesOwn.never rfl (pi_range2 (by rfl) T.z_range (pa_cons pe_int (pa_cons pe_int pa_nil))) (pg_name (i := 10) sc_law.nd rfl (Or.inl rfl)) (pss_one (ps_if (pt_not (pt_val (pe_cc C__law_parts hr (by decide) (by rfl) (pa_cons (pv 7) (pa_cons (pv 5) (pa_cons (pv 10) (pa_cons (pe_ix (k_ixT (K := K) rfl) (pv 9) (pe_op op_sub (pv 10) pe_int) (fun _ _ => rfl)) pa_nil))))))) (pss_one (ps_ret pe_bl)) pss_nil)))
 (pss_one (ps_ret (pe_and (pe_cc C__law_refusals hr (by decide) (by rfl) (pa_cons (pv 1) (pa_cons (pv 7) (pa_cons (pv 3) pa_nil)))) (pe_and (pe_cc C__law_is hr (by decide) (by rfl) (pa_cons (pv 7) (pa_cons (pv 5) pa_nil))) (pe_one (pe_cc C__law_is hr (by decide) (by rfl) (pa_cons (pv 8) (pa_cons (pv 6) pa_nil)))))))))))))))))))))).nox, ?_⟩
  refine w_start (σ := [some _, none, none, none, none, none, none, none, none, none, none]) rfl ?_
  walk_at "go"
  refine ⟨a0, ns, rfl, hs, hl, fun b c H1 c1 B1 => ?_⟩
  walk_at "go"
  refine w_cut (M := fun σ' H' => Box H' b c ∧ ∃ g : Nat, g ≤ 5 ∧ σ' = [some (.ref a0), some (.ref b), some (.int g), none, none, none, none, none, none, none, none]) ?_ ?_
  · walk_at "go"
    refine ⟨b, c, 8, rfl, B1, by decide, by decide, fun r1 H2 r10 r11 c2 B2 => ?_⟩
    walk_at "go"
    refine ite_d (fun h => ?_) (fun h => ?_)
    · walk_at "go"
      refine ⟨b, c, 5, rfl, B2, by decide, by decide, fun r2 H3 r20 r21 c3 B3 => ?_⟩
      walk_at "go"
      refine ⟨B3, (1 + r2).toNat, by omega, ?_⟩
      rw [show (((1 + r2).toNat : Nat) : Int) = 1 + r2 by omega]
      rfl
    · walk_at "go"
      exact ⟨B2, 0, by decide, rfl⟩
  rintro σ' H2 ⟨B2, g, hg, rfl⟩
  clear hs c1 B1
  walk_at "go"
  refine ⟨b, c, g, rfl, B2, hg, fun lt ts H3 nlt c3 B3 hlt okt ltt => ?_⟩
  have ne1 : lt ≠ b := ((B2.ne nlt).1).symm
  walk_at "go"
  refine ⟨b, c, lt, g, ts, rfl, B3, hlt, okt, ltt, hg, ne1, fun lu us H4 nlu c4 B4 hlu oku ltu => ?_⟩
  have ne2 : lu ≠ b := ((B3.ne nlu).1).symm
  have hlt := hlt.ch1 ne1 c4
  walk_at "go"
  refine ⟨lt, ts, rfl, hlt, by omega, fun a H5 as nfa cfa c5 ha hat => ?_⟩
  have fa := okt.fin (by omega) nfa cfa
  have lta : as.length ≤ 17 := by have := nfa.len_le cfa; omega
  walk_at "go"
  refine ⟨lu, us, rfl, hlu.ch0 c5, by omega, fun b' H6 bs nfb cfb c6 hb _ => ?_⟩
  have fb := oku.fin (by omega) nfb cfb
  have ltb : bs.length ≤ 17 := by have := nfb.len_le cfb; omega
  have c46 := c5.trans c6
  have hlt := hlt.ch0 c46
  have hlu := hlu.ch0 c46
  have ha := ha.ch c6
  have hat : ∃ xs, H6 a = some (.tup xs) := let ⟨xs, h⟩ := hat; ⟨xs, c6.tup h⟩
  have B6 := B4.mono c46
  clear c3 c4 c5 c6 c46 B2 B3 B4
  walk_at "go"
  refine ⟨b, c, 2, rfl, B6, by decide, by decide, fun r3 H7 r30 r31 c7 B7 => ?_⟩
  walk_at "go"
  refine ⟨lt, _, ts, rfl, hlt.ch1 ne1 c7, okt.exp, by omega, fun p ps H8 nfp cfp c8 hp => ?_⟩
  obtain rfl := nfp.eq nfa fun e => by rw [cfp, cfa]
  have c78 := c7.trans0 c8
  walk_at "go"
  refine ⟨b, c, 2, rfl, B7.mono c8, by decide, by decide, fun r4 H9 r40 r41 c9 B9 => ?_⟩
  walk_at "go"
  have c79 := c78.trans c9
  refine ⟨lu, _, us, rfl, hlu.ch1 ne2 c79, oku.exp, by omega, fun q0 qs H10 nfq cfq c10 hq => ?_⟩
  obtain rfl := nfq.eq nfb fun e => by rw [cfq, cfb]
  have cA := c79.trans0 c10
  have hlt := hlt.ch1 ne1 cA
  have ha := ha.ch cA
  have hb := hb.ch cA
  have hat : ∃ xs, H10 a = some (.tup xs) := let ⟨xs, h⟩ := hat; ⟨xs, cA.tup h⟩
  have hp := hp.ch (c9.trans0 c10)
  have B10 := B9.mono c10
  clear hlu c7 c8 c9 c10 c78 c79 cA B6 B7 B9
  walk_at "go"
  refine ⟨p, a, ps, rfl, hp, ha, by omega, fun H11 c11 => ?_⟩
  refine ⟨_, rfl, ?_⟩
  walk_at "go"
  refine ⟨q0, b', qs, rfl, hq.ch c11, hb.ch c11, by omega, fun H12 c12 => ?_⟩
  refine ⟨_, rfl, ?_⟩
  have cB := c11.trans c12
  have hlt := hlt.ch0 cB
  have ha := ha.ch cB
  have hb := hb.ch cB
  have hat : ∃ xs, H12 a = some (.tup xs) := let ⟨xs, h⟩ := hat; ⟨xs, cB.tup h⟩
  have hp := hp.ch cB
  have hq := hq.ch cB
  have B12 := B10.mono cB
  clear c11 c12 cB B10
  walk_at "go"
  refine ⟨p, q0, a, b', ps, qs, rfl, hp, hq, ha, hat, hb, fa, fb, lta, ltb, fun H13 c13 => ?_⟩
  refine ⟨_, rfl, ?_⟩
  walk_at "go"
  refine ⟨b, c, g, rfl, B12.mono c13, hg, fun H14 c14 B14 => ?_⟩
  refine ⟨_, rfl, ?_⟩
  have c14 := c13.of0.trans c14
  have hlt := hlt.ch1 ne1 c14
  have ha := ha.ch c14
  have hb := hb.ch c14
  have hp := hp.ch c14
  have hq := hq.ch c14
  clear hat c13 c14 B12
  walk_at "go"
  refine ⟨b, c, rfl, B14, fun t1 x1 y1 H15 p1 b1 d1 c15 B15 h15 => ?_⟩
  walk_at "go"
  refine ⟨b, c, rfl, B15, fun t2 x2 y2 H16 p2 b2 d2 c16 B16 h16 => ?_⟩
  walk_at "go"
  refine ⟨b, c, rfl, B16, fun t3 x3 y3 H17 p3 b3 d3 c17 B17 h17 => ?_⟩
  walk_at "go"
  refine w_newT (show 3 ≤ sizeLine by decide) fun pt H18 n18 c18 h18 => ?_
  let fp : Nat → Int × Int := fun n => if n = 0 then (x1, y1) else if n = 1 then (x2, y2) else (x3, y3)
  have hpt : Pt3 K H18 pt fp := ⟨t1, t2, t3, .of h18, (c16.trans (c17.trans0 c18)).sqT h15, (c17.trans0 c18).sqT h16, c18.sqT h17⟩
  have hfp : ∀ n, n < 3 → (fp n).1.natAbs < 2 ^ 58 ∧ (fp n).2.natAbs < 2 ^ 58 ∧ 0 < (fp n).2 := fun n hn => by
    obtain rfl | rfl | rfl : n = 0 ∨ n = 1 ∨ n = 2 := by omega
    · exact ⟨b1, d1, p1⟩
    · exact ⟨b2, d2, p2⟩
    · exact ⟨b3, d3, p3⟩
  have cC := (c15.trans (c16.trans c17)).trans0 c18
  have hlt := hlt.ch1 ne1 cC
  have ha := ha.ch cC
  have hb := hb.ch cC
  have hp := hp.ch cC
  have hq := hq.ch cC
  have B18 := B17.mono c18
  clear cC c15 c16 c17 c18 B14 B15 B16 B17
  walk_at "go"
  refine ⟨p, a, pt, ps, fp, rfl, hp, ha, hpt, fa, lta, hfp, fun H19 c19 => ?_⟩
  refine ⟨_, rfl, ?_⟩
  walk_at "go"
  refine w_iR2r ⟨by decide, by decide, by decide, by decide⟩ ?_
  refine for_R (n := 3) (fun i σ H' => Ch [] H18 H' ∧ ∃ z1, σ = [some (.ref a0), some (.ref b), some (.int g), some (.ref lt), some (.ref lu), some (.ref a), some (.ref b'), some (.ref p), some (.ref q0), some (.ref pt), z1])
    ⟨c19, _, rfl⟩ ?_ ?_
  · rintro i σ H' hi ⟨cc, z1, rfl⟩
    obtain ⟨xs, hxs, lxs, hpn⟩ := (hpt.ch cc).at_
    obtain ⟨fb, e1, hfb⟩ := hpn i hi
    walk_at "go"
    refine w_ixT hxs (atI_at (k := i) (by omega) e1) ?_
    walk_at "go"
    refine ⟨p, a, fb, i, _, ps, fp i, rfl, by omega, hi, hp.ch cc, ha.ch cc, hfb, fa, lta, (hfp i hi).1, (hfp i hi).2.1, fun H20 c20 => ?_⟩
    refine ⟨_, rfl, ?_⟩
    walk_at "go"
    exact ⟨cc.trans c20, _, rfl⟩
  rintro σ H20 ⟨c20, z1, rfl⟩
  walk_at "go"
  refine ⟨b, c, p, lt, ts, ps, rfl, B18.mono c20, ne1, hp.ch c20, hlt.ch0 c20, okt.exp, by omega, fa.e, by omega, fun n => by have := fa.dl (n := n); omega, fun t m => Nat.lt_of_lt_of_le (fa.c t m) (Nat.pow_le_pow_right (by decide) (by decide)), fun H21 c21 B21 => ?_⟩
  refine ⟨_, rfl, ?_⟩
  walk_at "go"
  have cD := c20.of0.trans c21
  refine ⟨p, a, ps, rfl, hp.ch cD, ha.ch cD, by omega, fun H22 c22 => ?_⟩
  refine ⟨_, rfl, ?_⟩
  walk_at "go"
  have cE := cD.trans0 c22
  refine ⟨q0, b', qs, rfl, hq.ch cE, hb.ch cE, by omega, fun H23 c23 => ?_⟩
  exact q H23
end
end My
namespace My
open PySem PySem.Spec PyProof.Rows L2
section
variable {K : PySem.W.Frag} {h : Heap} {mg : Str → Option Value} {x : Str}
theorem defE_of {st : Stmt} {ps : List Str} {dvs : List V} {n2 : Nat} (X : K.In h) (G : h.Ns mainGlobals mg) (g : (He.Fa.glo x).ok K = true) (d0 : dvs ≠ []) (F : ∃ fd, FunD K x x (defArgs st) (defBody st) (defScope st) dvs [] (He.fAd K (x, none)) fd)
    (b : ∀ (T : Addr) (kV doc pm : Value) (an : Option Addr) (cdv ct : Value) (us its : List Value), us.length = ps.length → its.length = dvs.length →
      ∃ k, bindArgs (PySem.W.fnOf x x (defArgs st) (defBody st) (defScope st) (.ref T) kV doc pm an cdv ct) ⟨us, []⟩ = seqItems? (.ref T) >>= k ∧ k (some its.toArray) = pure (ps.zip (us ++ its.drop dvs.length)))
    (e2 : n2 + dvs.length = ps.length)
    (b2 : ∀ (T : Addr) (kV doc pm : Value) (an : Option Addr) (cdv ct : Value) (us its : List Value), us.length = n2 → its.length = dvs.length →
      ∃ k, bindArgs (PySem.W.fnOf x x (defArgs st) (defBody st) (defScope st) (.ref T) kV doc pm an cdv ct) ⟨us, []⟩ = seqItems? (.ref T) >>= k ∧ k (some its.toArray) = pure (ps.zip (us ++ its.drop 0))) : ∃ f fd, DefE K mg x st ps dvs f fd := by
  obtain ⟨fd, F⟩ := F
  refine ⟨_, fd, F, He.glo_ok X G g, ?_, ?_⟩
  · obtain ⟨ds, v, B⟩ := F.binds1 ps.length dvs.length d0 (by rw [Nat.sub_self]; rfl) b
    rw [List.drop_length] at v
    cases v
    exact B
  · obtain ⟨ds, v, B⟩ := F.binds1 n2 0 d0 (by rw [Nat.sub_zero]; exact e2) b2
    rw [List.drop_zero] at v
    exact ⟨ds, v, B⟩
end
section
variable {P : Program} {w : World} {K : PySem.W.Frag} {mg : Str → Option Value} {base : Heap}
abbrev si_InvalidUnknown : Stmt := inClass (topS 6) 0
theorem sci_InvalidUnknown : FnScope ["self", "unknown"] ["self", "unknown"] (defScope si_InvalidUnknown) := ⟨rfl, rfl, rfl, by decide +kernel, rfl, by decide +kernel, by decide +kernel⟩
theorem ci_InvalidUnknown {C fI : Addr} {fd : FuncData} (T : OexC K C) (n_unknown : PySem.W.findIn K (.ref C) "unknown" = some none) (F : Fun K "__init__" "InvalidUnknown.__init__" si_InvalidUnknown fI fd) : FnOk P w K mg base (L2.CX P w) 1 fI fd ["self", "unknown"] (sp_init1 K C "unknown") := by
  refine F.okX sci_InvalidUnknown (fun vs H Q E h => by obtain ⟨_, _, rfl, _⟩ := h; rfl) (fun cdv A outer s H vs Q E hr h => ?_)
  obtain ⟨a, v_unknown, rfl, ea, qq⟩ := h
  exact ⟨_, (pss_one (ps_ost (pv 0) (pv 1))), init1_pure T n_unknown ea qq⟩
theorem all_law {A_CellspireError A_DivisionByZero A_NotOneUnknown A_InvalidPoly A_InvalidUnknown A_Poly A_UNKNOWNS A_e t_RUN : Addr} (T : Txt mg) (T_P : PolyK K mg A_Poly) (z_str : mg "str" = none) (z_divmod : mg "divmod" = none) (z_ValueError : mg "ValueError" = none) (m_gcd : mg "gcd" = some (.builtin "math.gcd")) (UE : ∀ H, SqT K H A_e []) (UU : ∀ H, SqT K H A_UNKNOWNS (US.map V.str)) (G_UNKNOWNS : mg "UNKNOWNS" = some (.ref A_UNKNOWNS)) (G__RUN : mg "_RUN" = some (.int 600 t_RUN)) (X_DivisionByZero : ExcF K mg "DivisionByZero" A_DivisionByZero) (X_InvalidPoly : ExcF K mg "InvalidPoly" A_InvalidPoly) (X_NotOneUnknown : ExcF K mg "NotOneUnknown" A_NotOneUnknown) (OI_InvalidUnknown : OwnI K "InvalidUnknown.__init__" A_InvalidUnknown si_InvalidUnknown ["self", "unknown"]) (NA_InvalidUnknown_unknown : PySem.W.findIn K (.ref A_InvalidUnknown) "unknown" = some none) (G_CellspireError : mg "CellspireError" = some (.ref A_CellspireError)) (G_NotOneUnknown : mg "NotOneUnknown" = some (.ref A_NotOneUnknown)) (G_InvalidUnknown : mg "InvalidUnknown" = some (.ref A_InvalidUnknown)) (G_InvalidPoly : mg "InvalidPoly" = some (.ref A_InvalidPoly)) (XC_NotOneUnknown : ExcC K A_NotOneUnknown) (XC_InvalidUnknown : ExcC K A_InvalidUnknown) (XC_InvalidPoly : ExcC K A_InvalidPoly) (eN1 : PySem.W.exmOne K (.ref A_NotOneUnknown) (.ref A_NotOneUnknown) = some true) (eN2 : PySem.W.kitOne K (.ref A_NotOneUnknown) (.ref A_InvalidUnknown) = some false) (eN3 : PySem.W.kitOne K (.ref A_NotOneUnknown) (.ref A_CellspireError) = some true) (eN4 : PySem.W.kitOne K (.ref A_NotOneUnknown) (.type "ValueError") = some true) (eU1 : PySem.W.exmOne K (.ref A_InvalidUnknown) (.ref A_InvalidUnknown) = some true) (eU2 : PySem.W.kitOne K (.ref A_InvalidUnknown) (.ref A_NotOneUnknown) = some false) (eU3 : PySem.W.kitOne K (.ref A_InvalidUnknown) (.ref A_InvalidPoly) = some false) (eU4 : PySem.W.kitOne K (.ref A_InvalidUnknown) (.ref A_CellspireError) = some true) (eP1 : PySem.W.exmOne K (.ref A_InvalidPoly) (.ref A_InvalidPoly) = some true) (eP2 : PySem.W.kitOne K (.ref A_InvalidPoly) (.ref A_InvalidUnknown) = some false) (eP3 : PySem.W.kitOne K (.ref A_InvalidPoly) (.ref A_CellspireError) = some true) (eP4 : PySem.W.kitOne K (.ref A_InvalidPoly) (.type "ValueError") = some true) {f__changed : Addr} {fd__changed : FuncData} (D__changed : DefF K mg "_changed" s__changed ["c", "term", "place", "power"] f__changed fd__changed) {f__is_term : Addr} {fd__is_term : FuncData} (D__is_term : DefF K mg "_is_term" s__is_term ["term"] f__is_term fd__is_term) {f__mixed : Addr} {fd__mixed : FuncData} (D__mixed : DefF K mg "_mixed" s__mixed ["first", "second", "factor"] f__mixed fd__mixed) {f__in_order : Addr} {fd__in_order : FuncData} (D__in_order : DefF K mg "_in_order" s__in_order ["table"] f__in_order fd__in_order) {f__collected : Addr} {fd__collected : FuncData} (D__collected : DefF K mg "_collected" s__collected ["terms"] f__collected fd__collected) {f_P_init : Addr} {fd_P_init : FuncData} (D_P_init : DefI K mg "Poly" A_Poly "Poly.__init__" s_P_init ["self", "terms"] [.ref A_e] f_P_init fd_P_init) {f_fraction : Addr} {fd_fraction : FuncData} (D_fraction : DefE K mg "fraction" s_fraction ["n", "d"] [.int 1] f_fraction fd_fraction) {f_whole_power : Addr} {fd_whole_power : FuncData} (D_whole_power : DefF K mg "whole_power" s_whole_power ["a", "n"] f_whole_power fd_whole_power) {f__digits : Addr} {fd__digits : FuncData} (D__digits : DefF K mg "_digits" s__digits ["n"] f__digits fd__digits) {f__write_integer : Addr} {fd__write_integer : FuncData} (D__write_integer : DefF K mg "_write_integer" s__write_integer ["n"] f__write_integer fd__write_integer) {f_write_fraction : Addr} {fd_write_fraction : FuncData} (D_write_fraction : DefF K mg "write_fraction" s_write_fraction ["a"] f_write_fraction fd_write_fraction) {f_gcd_of : Addr} {fd_gcd_of : FuncData} (D_gcd_of : DefF K mg "gcd_of" s_gcd_of ["numbers"] f_gcd_of fd_gcd_of) {f__of_terms : Addr} {fd__of_terms : FuncData} (D__of_terms : DefF K mg "_of_terms" s__of_terms ["terms"] f__of_terms fd__of_terms) {f__spread : Addr} {fd__spread : FuncData} (D__spread : DefF K mg "_spread" s__spread ["terms", "term"] f__spread fd__spread) {f__multiplied : Addr} {fd__multiplied : FuncData} (D__multiplied : DefF K mg "_multiplied" s__multiplied ["first", "second"] f__multiplied fd__multiplied) {f_P_add : Addr} {fd_P_add : FuncData} (D_P_add : DefM K A_Poly "__add__" "Poly.__add__" s_P_add ["self", "other"] f_P_add fd_P_add) {f_P_sub : Addr} {fd_P_sub : FuncData} (D_P_sub : DefM K A_Poly "__sub__" "Poly.__sub__" s_P_sub ["self", "other"] f_P_sub fd_P_sub) {f_P_mul : Addr} {fd_P_mul : FuncData} (D_P_mul : DefM K A_Poly "__mul__" "Poly.__mul__" s_P_mul ["self", "other"] f_P_mul fd_P_mul) {f_P_neg : Addr} {fd_P_neg : FuncData} (D_P_neg : DefM K A_Poly "__neg__" "Poly.__neg__" s_P_neg ["self"] f_P_neg fd_P_neg) {f_P_eq : Addr} {fd_P_eq : FuncData} (D_P_eq : DefM K A_Poly "__eq__" "Poly.__eq__" s_P_eq ["self", "other"] f_P_eq fd_P_eq) {f_P_degree : Addr} {fd_P_degree : FuncData} (D_P_degree : DefM K A_Poly "degree" "Poly.degree" s_P_degree ["self"] f_P_degree fd_P_degree) {f_place_of : Addr} {fd_place_of : FuncData} (D_place_of : DefF K mg "place_of" s_place_of ["unknown"] f_place_of fd_place_of) {f_P_degree_in : Addr} {fd_P_degree_in : FuncData} (D_P_degree_in : DefM K A_Poly "degree_in" "Poly.degree_in" s_P_degree_in ["self", "unknown"] f_P_degree_in fd_P_degree_in) {f_P_unknowns : Addr} {fd_P_unknowns : FuncData} (D_P_unknowns : DefM K A_Poly "unknowns" "Poly.unknowns" s_P_unknowns ["self"] f_P_unknowns fd_P_unknowns) {f__ladder : Addr} {fd__ladder : FuncData} (D__ladder : DefF K mg "_ladder" s__ladder ["a", "most"] f__ladder fd__ladder) {f_P_coefficients : Addr} {fd_P_coefficients : FuncData} (D_P_coefficients : DefM K A_Poly "coefficients" "Poly.coefficients" s_P_coefficients ["self", "unknown"] f_P_coefficients fd_P_coefficients) {f_P_value : Addr} {fd_P_value : FuncData} (D_P_value : DefM K A_Poly "value" "Poly.value" s_P_value ["self", "point"] f_P_value fd_P_value) {f_P_put : Addr} {fd_P_put : FuncData} (D_P_put : DefM K A_Poly "put" "Poly.put" s_P_put ["self", "unknown", "a"] f_P_put fd_P_put) {f_P_as_row : Addr} {fd_P_as_row : FuncData} (D_P_as_row : DefM K A_Poly "as_row" "Poly.as_row" s_P_as_row ["self", "unknown"] f_P_as_row fd_P_as_row) {f_P_slope : Addr} {fd_P_slope : FuncData} (D_P_slope : DefM K A_Poly "slope" "Poly.slope" s_P_slope ["self", "unknown"] f_P_slope fd_P_slope) {f_P_primitive : Addr} {fd_P_primitive : FuncData} (D_P_primitive : DefM K A_Poly "primitive" "Poly.primitive" s_P_primitive ["self"] f_P_primitive fd_P_primitive) {f__term_text : Addr} {fd__term_text : FuncData} (D__term_text : DefF K mg "_term_text" s__term_text ["size", "powers"] f__term_text fd__term_text) {f__text : Addr} {fd__text : FuncData} (D__text : DefF K mg "_text" s__text ["terms"] f__text fd__text) {f_P_str : Addr} {fd_P_str : FuncData} (D_P_str : DefM K A_Poly "__str__" "Poly.__str__" s_P_str ["self"] f_P_str fd_P_str) {f_P_constant : Addr} {fd_P_constant : FuncData} (D_P_constant : DefS K A_Poly "constant" "Poly.constant" s_P_constant ["n"] f_P_constant fd_P_constant) {f_P_of_unknown : Addr} {fd_P_of_unknown : FuncData} (D_P_of_unknown : DefS K A_Poly "of_unknown" "Poly.of_unknown" s_P_of_unknown ["name"] f_P_of_unknown fd_P_of_unknown) {f_P_of_row : Addr} {fd_P_of_row : FuncData} (D_P_of_row : DefS K A_Poly "of_row" "Poly.of_row" s_P_of_row ["row", "name"] f_P_of_row fd_P_of_row) {f__law_box : Addr} {fd__law_box : FuncData} (D__law_box : DefF K mg "_law_box" s__law_box ["script"] f__law_box fd__law_box) {f__law_mix : Addr} {fd__law_mix : FuncData} (D__law_mix : DefF K mg "_law_mix" s__law_mix ["cell", "turn"] f__law_mix fd__law_mix) {f__law_draw : Addr} {fd__law_draw : FuncData} (D__law_draw : DefF K mg "_law_draw" s__law_draw ["box", "size"] f__law_draw fd__law_draw) {f__law_gcd : Addr} {fd__law_gcd : FuncData} (D__law_gcd : DefF K mg "_law_gcd" s__law_gcd ["a", "b"] f__law_gcd fd__law_gcd) {f__law_number : Addr} {fd__law_number : FuncData} (D__law_number : DefF K mg "_law_number" s__law_number ["box", "groups"] f__law_number fd__law_number) {f__law_is_int : Addr} {fd__law_is_int : FuncData} (D__law_is_int : DefF K mg "_law_is_int" s__law_is_int ["thing"] f__law_is_int fd__law_is_int) {f__law_same : Addr} {fd__law_same : FuncData} (D__law_same : DefF K mg "_law_same" s__law_same ["told", "due"] f__law_same fd__law_same) {f__law_power : Addr} {fd__law_power : FuncData} (D__law_power : DefF K mg "_law_power" s__law_power ["a", "n"] f__law_power fd__law_power) {f__law_gather : Addr} {fd__law_gather : FuncData} (D__law_gather : DefF K mg "_law_gather" s__law_gather ["terms"] f__law_gather fd__law_gather) {f__law_join : Addr} {fd__law_join : FuncData} (D__law_join : DefF K mg "_law_join" s__law_join ["a", "b", "scale"] f__law_join fd__law_join) {f__law_multiply : Addr} {fd__law_multiply : FuncData} (D__law_multiply : DefF K mg "_law_multiply" s__law_multiply ["a", "b"] f__law_multiply fd__law_multiply) {f__law_is : Addr} {fd__law_is : FuncData} (D__law_is : DefF K mg "_law_is" s__law_is ["told", "due"] f__law_is fd__law_is) {f__law_moved : Addr} {fd__law_moved : FuncData} (D__law_moved : DefF K mg "_law_moved" s__law_moved ["term", "at", "power"] f__law_moved fd__law_moved) {f__law_terms : Addr} {fd__law_terms : FuncData} (D__law_terms : DefF K mg "_law_terms" s__law_terms ["box", "great"] f__law_terms fd__law_terms) {f__law_second : Addr} {fd__law_second : FuncData} (D__law_second : DefF K mg "_law_second" s__law_second ["box", "terms", "great"] f__law_second fd__law_second) {f__law_made : Addr} {fd__law_made : FuncData} (D__law_made : DefF K mg "_law_made" s__law_made ["terms", "as_list"] f__law_made fd__law_made) {f__law_text : Addr} {fd__law_text : FuncData} (D__law_text : DefF K mg "_law_text" s__law_text ["due"] f__law_text fd__law_text) {f__law_fraction : Addr} {fd__law_fraction : FuncData} (D__law_fraction : DefF K mg "_law_fraction" s__law_fraction ["box"] f__law_fraction fd__law_fraction) {f__law_equal : Addr} {fd__law_equal : FuncData} (D__law_equal : DefF K mg "_law_equal" s__law_equal ["p", "q", "due"] f__law_equal fd__law_equal) {f__law_operators : Addr} {fd__law_operators : FuncData} (D__law_operators : DefF K mg "_law_operators" s__law_operators ["p", "q", "a", "b"] f__law_operators fd__law_operators) {f__law_value : Addr} {fd__law_value : FuncData} (D__law_value : DefF K mg "_law_value" s__law_value ["terms", "point"] f__law_value fd__law_value) {f__law_coefficients : Addr} {fd__law_coefficients : FuncData} (D__law_coefficients : DefF K mg "_law_coefficients" s__law_coefficients ["terms", "at"] f__law_coefficients fd__law_coefficients) {f__law_whole : Addr} {fd__law_whole : FuncData} (D__law_whole : DefF K mg "_law_whole" s__law_whole ["p", "terms", "point"] f__law_whole fd__law_whole) {f__law_row_of : Addr} {fd__law_row_of : FuncData} (D__law_row_of : DefF K mg "_law_row_of" s__law_row_of ["p", "terms", "at"] f__law_row_of fd__law_row_of) {f__law_parts : Addr} {fd__law_parts : FuncData} (D__law_parts : DefF K mg "_law_parts" s__law_parts ["p", "terms", "at", "a"] f__law_parts fd__law_parts) {f__law_simple : Addr} {fd__law_simple : FuncData} (D__law_simple : DefF K mg "_law_simple" s__law_simple ["box", "great"] f__law_simple fd__law_simple) {f__law_refuses_name : Addr} {fd__law_refuses_name : FuncData} (D__law_refuses_name : DefF K mg "_law_refuses_name" s__law_refuses_name ["p", "door", "name"] f__law_refuses_name fd__law_refuses_name) {f__law_refuses_terms : Addr} {fd__law_refuses_terms : FuncData} (D__law_refuses_terms : DefF K mg "_law_refuses_terms" s__law_refuses_terms ["terms"] f__law_refuses_terms fd__law_refuses_terms) {f__law_refusals : Addr} {fd__law_refusals : FuncData} (D__law_refusals : DefF K mg "_law_refusals" s__law_refusals ["box", "p", "terms"] f__law_refusals fd__law_refusals) {f_law : Addr} {fd_law : FuncData} (D_law : DefF K mg "law" s_law ["script"] f_law fd_law) : FnOk P w K mg base (L2.CX P w) 11 f_law fd_law ["script"] (sp_law K) := by
  have O_InvalidUnknown : OexD P w K mg base 1 "InvalidUnknown" A_InvalidUnknown (sp_init1 K A_InvalidUnknown "unknown") := by
    obtain ⟨fI, fd, iC, tI, FI, BI⟩ := OI_InvalidUnknown.ex
    exact ⟨OI_InvalidUnknown.T, G_InvalidUnknown, fI, fd, _, iC, tI, ci_InvalidUnknown OI_InvalidUnknown.T NA_InvalidUnknown_unknown FI, BI⟩
  have C__changed := c__changed (P := P) (w := w) (base := base) (F := D__changed)
  have C__is_term := c__is_term (P := P) (w := w) (base := base) (T := T) (F := D__is_term)
  have C__mixed := c__mixed (P := P) (w := w) (base := base) (F := D__mixed)
  have C__in_order := c__in_order (P := P) (w := w) (base := base) (T := T) (F := D__in_order)
  have C__collected := c__collected (P := P) (w := w) (base := base) (C__mixed := C__mixed) (C__in_order := C__in_order) (F := D__collected)
  have C_P_init := c_P_init (P := P) (w := w) (base := base) (T_P := T_P) (X_InvalidPoly := X_InvalidPoly) (C__is_term := C__is_term) (C__collected := C__collected) (F := D_P_init)
  obtain ⟨C_fraction, CD_fraction⟩ := c_fraction (P := P) (w := w) (base := base) (m_gcd := m_gcd) (X_DivisionByZero := X_DivisionByZero) (F := D_fraction)
  have C_whole_power := c_whole_power (P := P) (w := w) (base := base) (F := D_whole_power)
  have C__digits := c__digits (P := P) (w := w) (base := base) (T := T) (z_str := z_str) (z_divmod := z_divmod) (G__RUN := G__RUN) (C_whole_power := C_whole_power) (F := D__digits)
  have C__write_integer := c__write_integer (P := P) (w := w) (base := base) (C__digits := C__digits) (F := D__write_integer)
  have C_write_fraction := c_write_fraction (P := P) (w := w) (base := base) (C__write_integer := C__write_integer) (F := D_write_fraction)
  have C_gcd_of := c_gcd_of (P := P) (w := w) (base := base) (m_gcd := m_gcd) (F := D_gcd_of)
  have C__of_terms := c__of_terms (P := P) (w := w) (base := base) (T_P := T_P) (UE := UE) (CI := C_P_init) (F := D__of_terms)
  have C__spread := c__spread (P := P) (w := w) (base := base) (T := T) (F := D__spread)
  have C__multiplied := c__multiplied (P := P) (w := w) (base := base) (F := D__multiplied)
  have C_P_add := c_P_add (P := P) (w := w) (base := base) (T := T) (T_P := T_P) (C__mixed := C__mixed) (C__in_order := C__in_order) (C__of_terms := C__of_terms) (F := D_P_add)
  have C_P_sub := c_P_sub (P := P) (w := w) (base := base) (T := T) (T_P := T_P) (C__mixed := C__mixed) (C__in_order := C__in_order) (C__of_terms := C__of_terms) (F := D_P_sub)
  have C_P_mul := c_P_mul (P := P) (w := w) (base := base) (T := T) (T_P := T_P) (C__spread := C__spread) (C__multiplied := C__multiplied) (C__in_order := C__in_order) (C__of_terms := C__of_terms) (F := D_P_mul)
  have C_P_neg := c_P_neg (P := P) (w := w) (base := base) (T := T) (T_P := T_P) (C__of_terms := C__of_terms) (F := D_P_neg)
  have C_P_eq := c_P_eq (P := P) (w := w) (base := base) (T := T) (T_P := T_P) (F := D_P_eq)
  have C_P_degree := c_P_degree (P := P) (w := w) (base := base) (T := T) (T_P := T_P) (F := D_P_degree)
  have C_place_of := c_place_of (P := P) (w := w) (base := base) (T := T) (G_UNKNOWNS := G_UNKNOWNS) (UU := UU) (O_InvalidUnknown := O_InvalidUnknown) (F := D_place_of)
  have C_P_degree_in := c_P_degree_in (P := P) (w := w) (base := base) (T := T) (T_P := T_P) (C_place_of := C_place_of) (F := D_P_degree_in)
  have C_P_unknowns := c_P_unknowns (P := P) (w := w) (base := base) (T := T) (T_P := T_P) (G_UNKNOWNS := G_UNKNOWNS) (UU := UU) (C_P_degree_in := C_P_degree_in) (F := D_P_unknowns)
  have C__ladder := c__ladder (P := P) (w := w) (base := base) (T := T) (F := D__ladder)
  have C_P_coefficients := c_P_coefficients (P := P) (w := w) (base := base) (T := T) (T_P := T_P) (C_place_of := C_place_of) (C_P_degree_in := C_P_degree_in) (C__changed := C__changed) (C__of_terms := C__of_terms) (F := D_P_coefficients)
  have C_P_value := c_P_value (P := P) (w := w) (base := base) (T := T) (T_P := T_P) (G_UNKNOWNS := G_UNKNOWNS) (UU := UU) (C_P_degree_in := C_P_degree_in) (C__ladder := C__ladder) (C_fraction := C_fraction) (F := D_P_value)
  have C_P_put := c_P_put (P := P) (w := w) (base := base) (T := T) (T_P := T_P) (C_place_of := C_place_of) (C_P_degree_in := C_P_degree_in) (C__ladder := C__ladder) (C__changed := C__changed) (C__collected := C__collected) (C__of_terms := C__of_terms) (F := D_P_put)
  have C_P_as_row := c_P_as_row (P := P) (w := w) (base := base) (T := T) (T_P := T_P) (X_NotOneUnknown := X_NotOneUnknown) (C_place_of := C_place_of) (C_P_degree_in := C_P_degree_in) (F := D_P_as_row)
  have C_P_slope := c_P_slope (P := P) (w := w) (base := base) (T := T) (T_P := T_P) (C_place_of := C_place_of) (C__changed := C__changed) (C__of_terms := C__of_terms) (F := D_P_slope)
  have C_P_primitive := c_P_primitive (P := P) (w := w) (base := base) (T := T) (T_P := T_P) (UE := UE) (CI := C_P_init) (C_gcd_of := C_gcd_of) (C__of_terms := C__of_terms) (F := D_P_primitive)
  have C__term_text := c__term_text (P := P) (w := w) (base := base) (T := T) (G_UNKNOWNS := G_UNKNOWNS) (UU := UU) (C_write_fraction := C_write_fraction) (F := D__term_text)
  have C__text := c__text (P := P) (w := w) (base := base) (T := T) (C__term_text := C__term_text) (F := D__text)
  have C_P_str := c_P_str (P := P) (w := w) (base := base) (T := T) (T_P := T_P) (C__text := C__text) (F := D_P_str)
  have C_P_constant := c_P_constant (P := P) (w := w) (base := base) (T_P := T_P) (CI := C_P_init) (F := D_P_constant)
  have C_P_of_unknown := c_P_of_unknown (P := P) (w := w) (base := base) (T_P := T_P) (CI := C_P_init) (C_place_of := C_place_of) (C__changed := C__changed) (F := D_P_of_unknown)
  have C_P_of_row := c_P_of_row (P := P) (w := w) (base := base) (T := T) (T_P := T_P) (CI := C_P_init) (C_place_of := C_place_of) (C__changed := C__changed) (F := D_P_of_row)
  have C__law_box := c__law_box (P := P) (w := w) (base := base) (T := T) (F := D__law_box)
  have C__law_mix := c__law_mix (P := P) (w := w) (base := base) (T := T) (F := D__law_mix)
  have C__law_draw := c__law_draw (P := P) (w := w) (base := base) (T := T) (C__law_mix := C__law_mix) (F := D__law_draw)
  have C__law_gcd := c__law_gcd (P := P) (w := w) (base := base) (T := T) (F := D__law_gcd)
  have C__law_number := c__law_number (P := P) (w := w) (base := base) (T := T) (C__law_draw := C__law_draw) (F := D__law_number)
  have C__law_is_int := c__law_is_int (P := P) (w := w) (base := base) (T := T) (F := D__law_is_int)
  have C__law_same := c__law_same (P := P) (w := w) (base := base) (T := T) (C__law_is_int := C__law_is_int) (F := D__law_same)
  have C__law_power := c__law_power (P := P) (w := w) (base := base) (T := T) (F := D__law_power)
  have C__law_gather := c__law_gather (P := P) (w := w) (base := base) (T := T) (F := D__law_gather)
  have C__law_join := c__law_join (P := P) (w := w) (base := base) (T := T) (C__law_gather := C__law_gather) (F := D__law_join)
  have C__law_multiply := c__law_multiply (P := P) (w := w) (base := base) (C__law_gather := C__law_gather) (F := D__law_multiply)
  have C__law_is := c__law_is (P := P) (w := w) (base := base) (T := T) (T_P := T_P) (C__law_is_int := C__law_is_int) (F := D__law_is)
  have C__law_moved := c__law_moved (P := P) (w := w) (base := base) (F := D__law_moved)
  have C__law_terms := c__law_terms (P := P) (w := w) (base := base) (T := T) (C__law_draw := C__law_draw) (C__law_number := C__law_number) (F := D__law_terms)
  have C__law_second := c__law_second (P := P) (w := w) (base := base) (T := T) (C__law_draw := C__law_draw) (C__law_terms := C__law_terms) (F := D__law_second)
  have C__law_made := c__law_made (P := P) (w := w) (base := base) (T := T) (T_P := T_P) (UE := UE) (CI := C_P_init) (F := D__law_made)
  have C__law_text := c__law_text (P := P) (w := w) (base := base) (T := T) (z_str := z_str) (F := D__law_text)
  have C__law_fraction := c__law_fraction (P := P) (w := w) (base := base) (T := T) (C__law_draw := C__law_draw) (C__law_number := C__law_number) (C__law_gcd := C__law_gcd) (F := D__law_fraction)
  have C__law_equal := c__law_equal (P := P) (w := w) (base := base) (T := T) (T_P := T_P) (C_P_eq := C_P_eq) (F := D__law_equal)
  have C__law_operators := c__law_operators (P := P) (w := w) (base := base) (T := T) (z_str := z_str) (T_P := T_P) (C_P_add := C_P_add) (C_P_sub := C_P_sub) (C_P_mul := C_P_mul) (C_P_neg := C_P_neg) (C_P_str := C_P_str) (C__law_is := C__law_is) (C__law_join := C__law_join) (C__law_multiply := C__law_multiply) (C__law_text := C__law_text) (C__law_equal := C__law_equal) (F := D__law_operators)
  have C__law_value := c__law_value (P := P) (w := w) (base := base) (T := T) (C__law_power := C__law_power) (C__law_gcd := C__law_gcd) (F := D__law_value)
  have C__law_coefficients := c__law_coefficients (P := P) (w := w) (base := base) (T := T) (C__law_gather := C__law_gather) (C__law_moved := C__law_moved) (F := D__law_coefficients)
  have C__law_whole := c__law_whole (P := P) (w := w) (base := base) (T := T) (T_P := T_P) (C_P_degree := C_P_degree) (C_P_unknowns := C_P_unknowns) (C_P_value := C_P_value) (C_P_primitive := C_P_primitive) (C__law_is_int := C__law_is_int) (C__law_same := C__law_same) (C__law_value := C__law_value) (C__law_gcd := C__law_gcd) (C__law_is := C__law_is) (F := D__law_whole)
  have C__law_row_of := c__law_row_of (P := P) (w := w) (base := base) (T := T) (T_P := T_P) (z_ValueError := z_ValueError) (G_NotOneUnknown := G_NotOneUnknown) (G_InvalidUnknown := G_InvalidUnknown) (G_CellspireError := G_CellspireError) (XC_NotOneUnknown := XC_NotOneUnknown) (e1 := eN1) (e2 := eN2) (e3 := eN3) (e4 := eN4) (C_P_as_row := C_P_as_row) (C__law_same := C__law_same) (F := D__law_row_of)
  have C__law_parts := c__law_parts (P := P) (w := w) (base := base) (T := T) (T_P := T_P) (C_P_degree_in := C_P_degree_in) (C_P_coefficients := C_P_coefficients) (C_P_put := C_P_put) (C_P_slope := C_P_slope) (C__law_coefficients := C__law_coefficients) (C__law_is_int := C__law_is_int) (C__law_is := C__law_is) (C__law_power := C__law_power) (C__law_gather := C__law_gather) (C__law_moved := C__law_moved) (C__law_row_of := C__law_row_of) (F := D__law_parts)
  have C__law_simple := c__law_simple (P := P) (w := w) (base := base) (T := T) (T_P := T_P) (UE := UE) (CI := C_P_init) (C_P_constant := C_P_constant) (C_P_of_unknown := C_P_of_unknown) (C_P_of_row := C_P_of_row) (C_P_as_row := C_P_as_row) (C__law_draw := C__law_draw) (C__law_number := C__law_number) (C__law_gather := C__law_gather) (C__law_is := C__law_is) (C__law_moved := C__law_moved) (C__law_row_of := C__law_row_of) (C__law_same := C__law_same) (F := D__law_simple)
  have C__law_refuses_name := c__law_refuses_name (P := P) (w := w) (base := base) (T := T) (T_P := T_P) (G_NotOneUnknown := G_NotOneUnknown) (G_InvalidUnknown := G_InvalidUnknown) (G_InvalidPoly := G_InvalidPoly) (G_CellspireError := G_CellspireError) (XC_InvalidUnknown := XC_InvalidUnknown) (NA_InvalidUnknown_unknown := NA_InvalidUnknown_unknown) (e1 := eU1) (e2 := eU2) (e3 := eU3) (e4 := eU4) (C_P_of_unknown := C_P_of_unknown) (C_P_of_row := C_P_of_row) (C_P_degree_in := C_P_degree_in) (C_P_coefficients := C_P_coefficients) (C_P_put := C_P_put) (C_P_as_row := C_P_as_row) (C_P_slope := C_P_slope) (F := D__law_refuses_name)
  have C__law_refuses_terms := c__law_refuses_terms (P := P) (w := w) (base := base) (T := T) (T_P := T_P) (z_ValueError := z_ValueError) (G_InvalidUnknown := G_InvalidUnknown) (G_InvalidPoly := G_InvalidPoly) (G_CellspireError := G_CellspireError) (XC_InvalidPoly := XC_InvalidPoly) (e1 := eP1) (e2 := eP2) (e3 := eP3) (e4 := eP4) (CI := C_P_init) (F := D__law_refuses_terms)
  have C__law_refusals := c__law_refusals (P := P) (w := w) (base := base) (T := T) (C__law_draw := C__law_draw) (C__law_refuses_name := C__law_refuses_name) (C__law_refuses_terms := C__law_refuses_terms) (F := D__law_refusals)
  have C_law := c_law (P := P) (w := w) (base := base) (T := T) (C__law_box := C__law_box) (C__law_draw := C__law_draw) (C__law_terms := C__law_terms) (C__law_second := C__law_second) (C__law_gather := C__law_gather) (C__law_made := C__law_made) (C__law_is := C__law_is) (C__law_operators := C__law_operators) (C__law_simple := C__law_simple) (C__law_fraction := C__law_fraction) (C__law_whole := C__law_whole) (C__law_parts := C__law_parts) (C__law_refusals := C__law_refusals) (F := D_law)
  exact C_law
end
end My
namespace My
open MyH PySem PySem.Spec PyProof.Rows L2
theorem facts {P : Program} {w : World} {K : PySem.W.Frag} {h : Heap} {mg : Str → Option Value} {f : Addr} (X : K.In h) (G : h.Ns mainGlobals mg) (hfa : mg ("law" : Str) = some (.ref f)) (cc : ∀ p ∈ ps_, He5.SaysA p.1 p.2 K) (e : ex K = true) :
    ∃ fd : FuncData, (∀ (s : Shared) (v : Value), BindsTo s fd ⟨[v], []⟩ [("script", v)]) ∧ ∀ base : Heap, K.In base → base.Ns mainGlobals mg → FnOk P w K mg base (L2.CX P w) 11 f fd ["script"] (sp_law K) := by
  have c0 : He5.SaysA ((fa, []) : PtA).1 ((fa, []) : PtA).2 K := all_mem (p := fun p : PtA => He5.SaysA p.1 p.2 K) (a := (fa, [])) cc 0 rfl
  have c1 : He5.SaysA (([], fp0) : PtA).1 (([], fp0) : PtA).2 K := all_mem (p := fun p : PtA => He5.SaysA p.1 p.2 K) (a := ([], fp0)) cc 1 rfl
  have c2 : He5.SaysA (([], fp1) : PtA).1 (([], fp1) : PtA).2 K := all_mem (p := fun p : PtA => He5.SaysA p.1 p.2 K) (a := ([], fp1)) cc 2 rfl
  obtain ⟨x_base, r_0⟩ := He.ba e
  obtain ⟨x_kind, r_1⟩ := He.ba r_0
  obtain ⟨x_exc, r_2⟩ := He.ba r_1
  obtain ⟨x_own, r_3⟩ := He.ba r_2
  obtain ⟨x_blt_gcd, r_4⟩ := He.ba r_3
  obtain ⟨x_poly, r_5⟩ := He.ba r_4
  obtain ⟨x_cread, r_6⟩ := He.ba r_5
  obtain ⟨x_sta, r_7⟩ := He.ba r_6
  obtain ⟨x_tup_UNKNOWNS, r_8⟩ := He.ba r_7
  obtain ⟨x_dfl, r_9⟩ := He.ba r_8
  have x_more0 := r_9
  obtain ⟨f__changed, fd__changed, D__changed, B__changed⟩ := defF_of (x := "_changed") (st := s__changed) (ps := ["c", "term", "place", "power"]) X G (c0.fact 0 (f := .glo "_changed") rfl) (c1.def_ 0 (d := dTop "_changed" s__changed) rfl) (fun _ _ _ _ _ _ us hl => match us, hl with | [_, _, _, _], _ => rfl)
  obtain ⟨f__is_term, fd__is_term, D__is_term, B__is_term⟩ := defF_of (x := "_is_term") (st := s__is_term) (ps := ["term"]) X G (c0.fact 1 (f := .glo "_is_term") rfl) (c1.def_ 1 (d := dTop "_is_term" s__is_term) rfl) (fun _ _ _ _ _ _ us hl => match us, hl with | [_], _ => rfl)
  obtain ⟨f__mixed, fd__mixed, D__mixed, B__mixed⟩ := defF_of (x := "_mixed") (st := s__mixed) (ps := ["first", "second", "factor"]) X G (c0.fact 2 (f := .glo "_mixed") rfl) (c1.def_ 2 (d := dTop "_mixed" s__mixed) rfl) (fun _ _ _ _ _ _ us hl => match us, hl with | [_, _, _], _ => rfl)
  obtain ⟨f__in_order, fd__in_order, D__in_order, B__in_order⟩ := defF_of (x := "_in_order") (st := s__in_order) (ps := ["table"]) X G (c0.fact 3 (f := .glo "_in_order") rfl) (c1.def_ 3 (d := dTop "_in_order" s__in_order) rfl) (fun _ _ _ _ _ _ us hl => match us, hl with | [_], _ => rfl)
  obtain ⟨f__collected, fd__collected, D__collected, B__collected⟩ := defF_of (x := "_collected") (st := s__collected) (ps := ["terms"]) X G (c0.fact 4 (f := .glo "_collected") rfl) (c1.def_ 4 (d := dTop "_collected" s__collected) rfl) (fun _ _ _ _ _ _ us hl => match us, hl with | [_], _ => rfl)
  obtain ⟨f_P_init, fd_P_init, D_P_init⟩ := defI_of (x := "Poly") (q := "Poly.__init__") (st := s_P_init) (ps := ["self", "terms"]) (dvs := [.ref (He.dflAt ("Poly", some "__init__") 0 K)]) (n2 := 1) X G (c0.fact 64 (f := .glo "Poly") rfl) (c0.fact 5 (f := .mkr "Poly") rfl) (List.cons_ne_nil _ _) (c1.def_ 5 (d := dMet "Poly" "__init__" "Poly.__init__" s_P_init [.adr (He.dflAt ("Poly", some "__init__") 0)]) rfl) (fun _ _ _ _ _ _ _ us its hu hi => match us, its, hu, hi with | [_, _], [_], _, _ => ⟨_, rfl, rfl⟩) rfl (fun _ _ _ _ _ _ _ us its hu hi => match us, its, hu, hi with | [_], [_], _, _ => ⟨_, rfl, rfl⟩)
  obtain ⟨f_fraction, fd_fraction, D_fraction⟩ := defE_of (x := "fraction") (st := s_fraction) (ps := ["n", "d"]) (dvs := [.int 1]) (n2 := 1) X G (c0.fact 6 (f := .glo "fraction") rfl) (by decide) (c1.def_ 6 (d := dTopD "fraction" s_fraction [.int 1]) rfl) (fun _ _ _ _ _ _ _ us its hu hi => match us, its, hu, hi with | [_, _], [_], _, _ => ⟨_, rfl, rfl⟩) rfl (fun _ _ _ _ _ _ _ us its hu hi => match us, its, hu, hi with | [_], [_], _, _ => ⟨_, rfl, rfl⟩)
  obtain ⟨f_whole_power, fd_whole_power, D_whole_power, B_whole_power⟩ := defF_of (x := "whole_power") (st := s_whole_power) (ps := ["a", "n"]) X G (c0.fact 7 (f := .glo "whole_power") rfl) (c1.def_ 7 (d := dTop "whole_power" s_whole_power) rfl) (fun _ _ _ _ _ _ us hl => match us, hl with | [_, _], _ => rfl)
  obtain ⟨f__digits, fd__digits, D__digits, B__digits⟩ := defF_of (x := "_digits") (st := s__digits) (ps := ["n"]) X G (c0.fact 8 (f := .glo "_digits") rfl) (c1.def_ 8 (d := dTop "_digits" s__digits) rfl) (fun _ _ _ _ _ _ us hl => match us, hl with | [_], _ => rfl)
  obtain ⟨f__write_integer, fd__write_integer, D__write_integer, B__write_integer⟩ := defF_of (x := "_write_integer") (st := s__write_integer) (ps := ["n"]) X G (c0.fact 9 (f := .glo "_write_integer") rfl) (c1.def_ 9 (d := dTop "_write_integer" s__write_integer) rfl) (fun _ _ _ _ _ _ us hl => match us, hl with | [_], _ => rfl)
  obtain ⟨f_write_fraction, fd_write_fraction, D_write_fraction, B_write_fraction⟩ := defF_of (x := "write_fraction") (st := s_write_fraction) (ps := ["a"]) X G (c0.fact 10 (f := .glo "write_fraction") rfl) (c1.def_ 10 (d := dTop "write_fraction" s_write_fraction) rfl) (fun _ _ _ _ _ _ us hl => match us, hl with | [_], _ => rfl)
  obtain ⟨f_gcd_of, fd_gcd_of, D_gcd_of, B_gcd_of⟩ := defF_of (x := "gcd_of") (st := s_gcd_of) (ps := ["numbers"]) X G (c0.fact 11 (f := .glo "gcd_of") rfl) (c1.def_ 11 (d := dTop "gcd_of" s_gcd_of) rfl) (fun _ _ _ _ _ _ us hl => match us, hl with | [_], _ => rfl)
  obtain ⟨f__of_terms, fd__of_terms, D__of_terms, B__of_terms⟩ := defF_of (x := "_of_terms") (st := s__of_terms) (ps := ["terms"]) X G (c0.fact 12 (f := .glo "_of_terms") rfl) (c1.def_ 12 (d := dTop "_of_terms" s__of_terms) rfl) (fun _ _ _ _ _ _ us hl => match us, hl with | [_], _ => rfl)
  obtain ⟨f__spread, fd__spread, D__spread, B__spread⟩ := defF_of (x := "_spread") (st := s__spread) (ps := ["terms", "term"]) X G (c0.fact 13 (f := .glo "_spread") rfl) (c1.def_ 13 (d := dTop "_spread" s__spread) rfl) (fun _ _ _ _ _ _ us hl => match us, hl with | [_, _], _ => rfl)
  obtain ⟨f__multiplied, fd__multiplied, D__multiplied, B__multiplied⟩ := defF_of (x := "_multiplied") (st := s__multiplied) (ps := ["first", "second"]) X G (c0.fact 14 (f := .glo "_multiplied") rfl) (c1.def_ 14 (d := dTop "_multiplied" s__multiplied) rfl) (fun _ _ _ _ _ _ us hl => match us, hl with | [_, _], _ => rfl)
  obtain ⟨f_P_add, fd_P_add, D_P_add⟩ := defM_of (x := "Poly") (m := "__add__") (q := "Poly.__add__") (st := s_P_add) (ps := ["self", "other"]) (c0.fact 15 (f := .meth "Poly" "__add__") rfl) (c1.def_ 15 (d := dMet "Poly" "__add__" "Poly.__add__" s_P_add []) rfl) (fun _ _ _ _ _ _ us hl => match us, hl with | [_, _], _ => rfl)
  obtain ⟨f_P_sub, fd_P_sub, D_P_sub⟩ := defM_of (x := "Poly") (m := "__sub__") (q := "Poly.__sub__") (st := s_P_sub) (ps := ["self", "other"]) (c0.fact 16 (f := .meth "Poly" "__sub__") rfl) (c1.def_ 16 (d := dMet "Poly" "__sub__" "Poly.__sub__" s_P_sub []) rfl) (fun _ _ _ _ _ _ us hl => match us, hl with | [_, _], _ => rfl)
  obtain ⟨f_P_mul, fd_P_mul, D_P_mul⟩ := defM_of (x := "Poly") (m := "__mul__") (q := "Poly.__mul__") (st := s_P_mul) (ps := ["self", "other"]) (c0.fact 17 (f := .meth "Poly" "__mul__") rfl) (c1.def_ 17 (d := dMet "Poly" "__mul__" "Poly.__mul__" s_P_mul []) rfl) (fun _ _ _ _ _ _ us hl => match us, hl with | [_, _], _ => rfl)
  obtain ⟨f_P_neg, fd_P_neg, D_P_neg⟩ := defM_of (x := "Poly") (m := "__neg__") (q := "Poly.__neg__") (st := s_P_neg) (ps := ["self"]) (c0.fact 18 (f := .meth "Poly" "__neg__") rfl) (c1.def_ 18 (d := dMet "Poly" "__neg__" "Poly.__neg__" s_P_neg []) rfl) (fun _ _ _ _ _ _ us hl => match us, hl with | [_], _ => rfl)
  obtain ⟨f_P_eq, fd_P_eq, D_P_eq⟩ := defM_of (x := "Poly") (m := "__eq__") (q := "Poly.__eq__") (st := s_P_eq) (ps := ["self", "other"]) (c0.fact 19 (f := .meth "Poly" "__eq__") rfl) (c1.def_ 19 (d := dMet "Poly" "__eq__" "Poly.__eq__" s_P_eq []) rfl) (fun _ _ _ _ _ _ us hl => match us, hl with | [_, _], _ => rfl)
  obtain ⟨f_P_degree, fd_P_degree, D_P_degree⟩ := defM_of (x := "Poly") (m := "degree") (q := "Poly.degree") (st := s_P_degree) (ps := ["self"]) (c0.fact 20 (f := .meth "Poly" "degree") rfl) (c1.def_ 20 (d := dMet "Poly" "degree" "Poly.degree" s_P_degree []) rfl) (fun _ _ _ _ _ _ us hl => match us, hl with | [_], _ => rfl)
  obtain ⟨f_place_of, fd_place_of, D_place_of, B_place_of⟩ := defF_of (x := "place_of") (st := s_place_of) (ps := ["unknown"]) X G (c0.fact 21 (f := .glo "place_of") rfl) (c1.def_ 21 (d := dTop "place_of" s_place_of) rfl) (fun _ _ _ _ _ _ us hl => match us, hl with | [_], _ => rfl)
  obtain ⟨f_P_degree_in, fd_P_degree_in, D_P_degree_in⟩ := defM_of (x := "Poly") (m := "degree_in") (q := "Poly.degree_in") (st := s_P_degree_in) (ps := ["self", "unknown"]) (c0.fact 22 (f := .meth "Poly" "degree_in") rfl) (c1.def_ 22 (d := dMet "Poly" "degree_in" "Poly.degree_in" s_P_degree_in []) rfl) (fun _ _ _ _ _ _ us hl => match us, hl with | [_, _], _ => rfl)
  obtain ⟨f_P_unknowns, fd_P_unknowns, D_P_unknowns⟩ := defM_of (x := "Poly") (m := "unknowns") (q := "Poly.unknowns") (st := s_P_unknowns) (ps := ["self"]) (c0.fact 23 (f := .meth "Poly" "unknowns") rfl) (c1.def_ 23 (d := dMet "Poly" "unknowns" "Poly.unknowns" s_P_unknowns []) rfl) (fun _ _ _ _ _ _ us hl => match us, hl with | [_], _ => rfl)
  obtain ⟨f__ladder, fd__ladder, D__ladder, B__ladder⟩ := defF_of (x := "_ladder") (st := s__ladder) (ps := ["a", "most"]) X G (c0.fact 24 (f := .glo "_ladder") rfl) (c1.def_ 24 (d := dTop "_ladder" s__ladder) rfl) (fun _ _ _ _ _ _ us hl => match us, hl with | [_, _], _ => rfl)
  obtain ⟨f_P_coefficients, fd_P_coefficients, D_P_coefficients⟩ := defM_of (x := "Poly") (m := "coefficients") (q := "Poly.coefficients") (st := s_P_coefficients) (ps := ["self", "unknown"]) (c0.fact 25 (f := .meth "Poly" "coefficients") rfl) (c1.def_ 25 (d := dMet "Poly" "coefficients" "Poly.coefficients" s_P_coefficients []) rfl) (fun _ _ _ _ _ _ us hl => match us, hl with | [_, _], _ => rfl)
  obtain ⟨f_P_value, fd_P_value, D_P_value⟩ := defM_of (x := "Poly") (m := "value") (q := "Poly.value") (st := s_P_value) (ps := ["self", "point"]) (c0.fact 26 (f := .meth "Poly" "value") rfl) (c1.def_ 26 (d := dMet "Poly" "value" "Poly.value" s_P_value []) rfl) (fun _ _ _ _ _ _ us hl => match us, hl with | [_, _], _ => rfl)
  obtain ⟨f_P_put, fd_P_put, D_P_put⟩ := defM_of (x := "Poly") (m := "put") (q := "Poly.put") (st := s_P_put) (ps := ["self", "unknown", "a"]) (c0.fact 27 (f := .meth "Poly" "put") rfl) (c1.def_ 27 (d := dMet "Poly" "put" "Poly.put" s_P_put []) rfl) (fun _ _ _ _ _ _ us hl => match us, hl with | [_, _, _], _ => rfl)
  obtain ⟨f_P_as_row, fd_P_as_row, D_P_as_row⟩ := defM_of (x := "Poly") (m := "as_row") (q := "Poly.as_row") (st := s_P_as_row) (ps := ["self", "unknown"]) (c0.fact 28 (f := .meth "Poly" "as_row") rfl) (c1.def_ 28 (d := dMet "Poly" "as_row" "Poly.as_row" s_P_as_row []) rfl) (fun _ _ _ _ _ _ us hl => match us, hl with | [_, _], _ => rfl)
  obtain ⟨f_P_slope, fd_P_slope, D_P_slope⟩ := defM_of (x := "Poly") (m := "slope") (q := "Poly.slope") (st := s_P_slope) (ps := ["self", "unknown"]) (c0.fact 29 (f := .meth "Poly" "slope") rfl) (c1.def_ 29 (d := dMet "Poly" "slope" "Poly.slope" s_P_slope []) rfl) (fun _ _ _ _ _ _ us hl => match us, hl with | [_, _], _ => rfl)
  obtain ⟨f_P_primitive, fd_P_primitive, D_P_primitive⟩ := defM_of (x := "Poly") (m := "primitive") (q := "Poly.primitive") (st := s_P_primitive) (ps := ["self"]) (c0.fact 30 (f := .meth "Poly" "primitive") rfl) (c1.def_ 30 (d := dMet "Poly" "primitive" "Poly.primitive" s_P_primitive []) rfl) (fun _ _ _ _ _ _ us hl => match us, hl with | [_], _ => rfl)
  obtain ⟨f__term_text, fd__term_text, D__term_text, B__term_text⟩ := defF_of (x := "_term_text") (st := s__term_text) (ps := ["size", "powers"]) X G (c0.fact 31 (f := .glo "_term_text") rfl) (c1.def_ 31 (d := dTop "_term_text" s__term_text) rfl) (fun _ _ _ _ _ _ us hl => match us, hl with | [_, _], _ => rfl)
  obtain ⟨f__text, fd__text, D__text, B__text⟩ := defF_of (x := "_text") (st := s__text) (ps := ["terms"]) X G (c0.fact 32 (f := .glo "_text") rfl) (c1.def_ 32 (d := dTop "_text" s__text) rfl) (fun _ _ _ _ _ _ us hl => match us, hl with | [_], _ => rfl)
  obtain ⟨f_P_str, fd_P_str, D_P_str⟩ := defM_of (x := "Poly") (m := "__str__") (q := "Poly.__str__") (st := s_P_str) (ps := ["self"]) (c0.fact 33 (f := .meth "Poly" "__str__") rfl) (c1.def_ 33 (d := dMet "Poly" "__str__" "Poly.__str__" s_P_str []) rfl) (fun _ _ _ _ _ _ us hl => match us, hl with | [_], _ => rfl)
  obtain ⟨f_P_constant, fd_P_constant, D_P_constant⟩ := defS_of (x := "Poly") (m := "constant") (q := "Poly.constant") (st := s_P_constant) (ps := ["n"]) x_cread (all_at x_sta 0 rfl) (c1.def_ 34 (d := dSta "Poly" "constant" "Poly.constant" s_P_constant) rfl) (fun _ _ _ _ _ _ us hl => match us, hl with | [_], _ => rfl)
  obtain ⟨f_P_of_unknown, fd_P_of_unknown, D_P_of_unknown⟩ := defS_of (x := "Poly") (m := "of_unknown") (q := "Poly.of_unknown") (st := s_P_of_unknown) (ps := ["name"]) x_cread (all_at x_sta 1 rfl) (c1.def_ 35 (d := dSta "Poly" "of_unknown" "Poly.of_unknown" s_P_of_unknown) rfl) (fun _ _ _ _ _ _ us hl => match us, hl with | [_], _ => rfl)
  obtain ⟨f_P_of_row, fd_P_of_row, D_P_of_row⟩ := defS_of (x := "Poly") (m := "of_row") (q := "Poly.of_row") (st := s_P_of_row) (ps := ["row", "name"]) x_cread (all_at x_sta 2 rfl) (c1.def_ 36 (d := dSta "Poly" "of_row" "Poly.of_row" s_P_of_row) rfl) (fun _ _ _ _ _ _ us hl => match us, hl with | [_, _], _ => rfl)
  obtain ⟨f__law_box, fd__law_box, D__law_box, B__law_box⟩ := defF_of (x := "_law_box") (st := s__law_box) (ps := ["script"]) X G (c0.fact 34 (f := .glo "_law_box") rfl) (c1.def_ 37 (d := dTop "_law_box" s__law_box) rfl) (fun _ _ _ _ _ _ us hl => match us, hl with | [_], _ => rfl)
  obtain ⟨f__law_mix, fd__law_mix, D__law_mix, B__law_mix⟩ := defF_of (x := "_law_mix") (st := s__law_mix) (ps := ["cell", "turn"]) X G (c0.fact 35 (f := .glo "_law_mix") rfl) (c1.def_ 38 (d := dTop "_law_mix" s__law_mix) rfl) (fun _ _ _ _ _ _ us hl => match us, hl with | [_, _], _ => rfl)
  obtain ⟨f__law_draw, fd__law_draw, D__law_draw, B__law_draw⟩ := defF_of (x := "_law_draw") (st := s__law_draw) (ps := ["box", "size"]) X G (c0.fact 36 (f := .glo "_law_draw") rfl) (c1.def_ 39 (d := dTop "_law_draw" s__law_draw) rfl) (fun _ _ _ _ _ _ us hl => match us, hl with | [_, _], _ => rfl)
  obtain ⟨f__law_gcd, fd__law_gcd, D__law_gcd, B__law_gcd⟩ := defF_of (x := "_law_gcd") (st := s__law_gcd) (ps := ["a", "b"]) X G (c0.fact 37 (f := .glo "_law_gcd") rfl) (c2.def_ 0 (d := dTop "_law_gcd" s__law_gcd) rfl) (fun _ _ _ _ _ _ us hl => match us, hl with | [_, _], _ => rfl)
  obtain ⟨f__law_number, fd__law_number, D__law_number, B__law_number⟩ := defF_of (x := "_law_number") (st := s__law_number) (ps := ["box", "groups"]) X G (c0.fact 38 (f := .glo "_law_number") rfl) (c2.def_ 1 (d := dTop "_law_number" s__law_number) rfl) (fun _ _ _ _ _ _ us hl => match us, hl with | [_, _], _ => rfl)
  obtain ⟨f__law_is_int, fd__law_is_int, D__law_is_int, B__law_is_int⟩ := defF_of (x := "_law_is_int") (st := s__law_is_int) (ps := ["thing"]) X G (c0.fact 39 (f := .glo "_law_is_int") rfl) (c2.def_ 2 (d := dTop "_law_is_int" s__law_is_int) rfl) (fun _ _ _ _ _ _ us hl => match us, hl with | [_], _ => rfl)
  obtain ⟨f__law_same, fd__law_same, D__law_same, B__law_same⟩ := defF_of (x := "_law_same") (st := s__law_same) (ps := ["told", "due"]) X G (c0.fact 40 (f := .glo "_law_same") rfl) (c2.def_ 3 (d := dTop "_law_same" s__law_same) rfl) (fun _ _ _ _ _ _ us hl => match us, hl with | [_, _], _ => rfl)
  obtain ⟨f__law_power, fd__law_power, D__law_power, B__law_power⟩ := defF_of (x := "_law_power") (st := s__law_power) (ps := ["a", "n"]) X G (c0.fact 41 (f := .glo "_law_power") rfl) (c2.def_ 4 (d := dTop "_law_power" s__law_power) rfl) (fun _ _ _ _ _ _ us hl => match us, hl with | [_, _], _ => rfl)
  obtain ⟨f__law_gather, fd__law_gather, D__law_gather, B__law_gather⟩ := defF_of (x := "_law_gather") (st := s__law_gather) (ps := ["terms"]) X G (c0.fact 42 (f := .glo "_law_gather") rfl) (c2.def_ 5 (d := dTop "_law_gather" s__law_gather) rfl) (fun _ _ _ _ _ _ us hl => match us, hl with | [_], _ => rfl)
  obtain ⟨f__law_join, fd__law_join, D__law_join, B__law_join⟩ := defF_of (x := "_law_join") (st := s__law_join) (ps := ["a", "b", "scale"]) X G (c0.fact 43 (f := .glo "_law_join") rfl) (c2.def_ 6 (d := dTop "_law_join" s__law_join) rfl) (fun _ _ _ _ _ _ us hl => match us, hl with | [_, _, _], _ => rfl)
  obtain ⟨f__law_multiply, fd__law_multiply, D__law_multiply, B__law_multiply⟩ := defF_of (x := "_law_multiply") (st := s__law_multiply) (ps := ["a", "b"]) X G (c0.fact 44 (f := .glo "_law_multiply") rfl) (c2.def_ 7 (d := dTop "_law_multiply" s__law_multiply) rfl) (fun _ _ _ _ _ _ us hl => match us, hl with | [_, _], _ => rfl)
  obtain ⟨f__law_is, fd__law_is, D__law_is, B__law_is⟩ := defF_of (x := "_law_is") (st := s__law_is) (ps := ["told", "due"]) X G (c0.fact 45 (f := .glo "_law_is") rfl) (c2.def_ 8 (d := dTop "_law_is" s__law_is) rfl) (fun _ _ _ _ _ _ us hl => match us, hl with | [_, _], _ => rfl)
  obtain ⟨f__law_moved, fd__law_moved, D__law_moved, B__law_moved⟩ := defF_of (x := "_law_moved") (st := s__law_moved) (ps := ["term", "at", "power"]) X G (c0.fact 46 (f := .glo "_law_moved") rfl) (c2.def_ 9 (d := dTop "_law_moved" s__law_moved) rfl) (fun _ _ _ _ _ _ us hl => match us, hl with | [_, _, _], _ => rfl)
  obtain ⟨f__law_terms, fd__law_terms, D__law_terms, B__law_terms⟩ := defF_of (x := "_law_terms") (st := s__law_terms) (ps := ["box", "great"]) X G (c0.fact 47 (f := .glo "_law_terms") rfl) (c2.def_ 10 (d := dTop "_law_terms" s__law_terms) rfl) (fun _ _ _ _ _ _ us hl => match us, hl with | [_, _], _ => rfl)
  obtain ⟨f__law_second, fd__law_second, D__law_second, B__law_second⟩ := defF_of (x := "_law_second") (st := s__law_second) (ps := ["box", "terms", "great"]) X G (c0.fact 48 (f := .glo "_law_second") rfl) (c2.def_ 11 (d := dTop "_law_second" s__law_second) rfl) (fun _ _ _ _ _ _ us hl => match us, hl with | [_, _, _], _ => rfl)
  obtain ⟨f__law_made, fd__law_made, D__law_made, B__law_made⟩ := defF_of (x := "_law_made") (st := s__law_made) (ps := ["terms", "as_list"]) X G (c0.fact 49 (f := .glo "_law_made") rfl) (c2.def_ 12 (d := dTop "_law_made" s__law_made) rfl) (fun _ _ _ _ _ _ us hl => match us, hl with | [_, _], _ => rfl)
  obtain ⟨f__law_text, fd__law_text, D__law_text, B__law_text⟩ := defF_of (x := "_law_text") (st := s__law_text) (ps := ["due"]) X G (c0.fact 50 (f := .glo "_law_text") rfl) (c2.def_ 13 (d := dTop "_law_text" s__law_text) rfl) (fun _ _ _ _ _ _ us hl => match us, hl with | [_], _ => rfl)
  obtain ⟨f__law_fraction, fd__law_fraction, D__law_fraction, B__law_fraction⟩ := defF_of (x := "_law_fraction") (st := s__law_fraction) (ps := ["box"]) X G (c0.fact 51 (f := .glo "_law_fraction") rfl) (c2.def_ 14 (d := dTop "_law_fraction" s__law_fraction) rfl) (fun _ _ _ _ _ _ us hl => match us, hl with | [_], _ => rfl)
  obtain ⟨f__law_equal, fd__law_equal, D__law_equal, B__law_equal⟩ := defF_of (x := "_law_equal") (st := s__law_equal) (ps := ["p", "q", "due"]) X G (c0.fact 52 (f := .glo "_law_equal") rfl) (c2.def_ 15 (d := dTop "_law_equal" s__law_equal) rfl) (fun _ _ _ _ _ _ us hl => match us, hl with | [_, _, _], _ => rfl)
  obtain ⟨f__law_operators, fd__law_operators, D__law_operators, B__law_operators⟩ := defF_of (x := "_law_operators") (st := s__law_operators) (ps := ["p", "q", "a", "b"]) X G (c0.fact 53 (f := .glo "_law_operators") rfl) (c2.def_ 16 (d := dTop "_law_operators" s__law_operators) rfl) (fun _ _ _ _ _ _ us hl => match us, hl with | [_, _, _, _], _ => rfl)
  obtain ⟨f__law_value, fd__law_value, D__law_value, B__law_value⟩ := defF_of (x := "_law_value") (st := s__law_value) (ps := ["terms", "point"]) X G (c0.fact 54 (f := .glo "_law_value") rfl) (c2.def_ 17 (d := dTop "_law_value" s__law_value) rfl) (fun _ _ _ _ _ _ us hl => match us, hl with | [_, _], _ => rfl)
  obtain ⟨f__law_coefficients, fd__law_coefficients, D__law_coefficients, B__law_coefficients⟩ := defF_of (x := "_law_coefficients") (st := s__law_coefficients) (ps := ["terms", "at"]) X G (c0.fact 55 (f := .glo "_law_coefficients") rfl) (c2.def_ 18 (d := dTop "_law_coefficients" s__law_coefficients) rfl) (fun _ _ _ _ _ _ us hl => match us, hl with | [_, _], _ => rfl)
  obtain ⟨f__law_whole, fd__law_whole, D__law_whole, B__law_whole⟩ := defF_of (x := "_law_whole") (st := s__law_whole) (ps := ["p", "terms", "point"]) X G (c0.fact 56 (f := .glo "_law_whole") rfl) (c2.def_ 19 (d := dTop "_law_whole" s__law_whole) rfl) (fun _ _ _ _ _ _ us hl => match us, hl with | [_, _, _], _ => rfl)
  obtain ⟨f__law_row_of, fd__law_row_of, D__law_row_of, B__law_row_of⟩ := defF_of (x := "_law_row_of") (st := s__law_row_of) (ps := ["p", "terms", "at"]) X G (c0.fact 57 (f := .glo "_law_row_of") rfl) (c2.def_ 20 (d := dTop "_law_row_of" s__law_row_of) rfl) (fun _ _ _ _ _ _ us hl => match us, hl with | [_, _, _], _ => rfl)
  obtain ⟨f__law_parts, fd__law_parts, D__law_parts, B__law_parts⟩ := defF_of (x := "_law_parts") (st := s__law_parts) (ps := ["p", "terms", "at", "a"]) X G (c0.fact 58 (f := .glo "_law_parts") rfl) (c2.def_ 21 (d := dTop "_law_parts" s__law_parts) rfl) (fun _ _ _ _ _ _ us hl => match us, hl with | [_, _, _, _], _ => rfl)
  obtain ⟨f__law_simple, fd__law_simple, D__law_simple, B__law_simple⟩ := defF_of (x := "_law_simple") (st := s__law_simple) (ps := ["box", "great"]) X G (c0.fact 59 (f := .glo "_law_simple") rfl) (c2.def_ 22 (d := dTop "_law_simple" s__law_simple) rfl) (fun _ _ _ _ _ _ us hl => match us, hl with | [_, _], _ => rfl)
  obtain ⟨f__law_refuses_name, fd__law_refuses_name, D__law_refuses_name, B__law_refuses_name⟩ := defF_of (x := "_law_refuses_name") (st := s__law_refuses_name) (ps := ["p", "door", "name"]) X G (c0.fact 60 (f := .glo "_law_refuses_name") rfl) (c2.def_ 23 (d := dTop "_law_refuses_name" s__law_refuses_name) rfl) (fun _ _ _ _ _ _ us hl => match us, hl with | [_, _, _], _ => rfl)
  obtain ⟨f__law_refuses_terms, fd__law_refuses_terms, D__law_refuses_terms, B__law_refuses_terms⟩ := defF_of (x := "_law_refuses_terms") (st := s__law_refuses_terms) (ps := ["terms"]) X G (c0.fact 61 (f := .glo "_law_refuses_terms") rfl) (c2.def_ 24 (d := dTop "_law_refuses_terms" s__law_refuses_terms) rfl) (fun _ _ _ _ _ _ us hl => match us, hl with | [_], _ => rfl)
  obtain ⟨f__law_refusals, fd__law_refusals, D__law_refusals, B__law_refusals⟩ := defF_of (x := "_law_refusals") (st := s__law_refusals) (ps := ["box", "p", "terms"]) X G (c0.fact 62 (f := .glo "_law_refusals") rfl) (c2.def_ 25 (d := dTop "_law_refusals" s__law_refusals) rfl) (fun _ _ _ _ _ _ us hl => match us, hl with | [_, _, _], _ => rfl)
  obtain ⟨f_law, fd_law, D_law, B_law⟩ := defF_of (x := "law") (st := s_law) (ps := ["script"]) X G (c0.fact 63 (f := .glo "law") rfl) (c2.def_ 26 (d := dTop "law" s_law) rfl) (fun _ _ _ _ _ _ us hl => match us, hl with | [_], _ => rfl)
  have z_len := He.free_ok X G (c0.fact 65 (f := .free "len") rfl)
  have z_tuple := He.free_ok X G (c0.fact 66 (f := .free "tuple") rfl)
  have z_int := He.free_ok X G (c0.fact 67 (f := .free "int") rfl)
  have z_bool := He.free_ok X G (c0.fact 68 (f := .free "bool") rfl)
  have z_range := He.free_ok X G (c0.fact 69 (f := .free "range") rfl)
  have z_isinstance := He.free_ok X G (c0.fact 70 (f := .free "isinstance") rfl)
  have z_abs := He.free_ok X G (c0.fact 71 (f := .free "abs") rfl)
  have z_min := He.free_ok X G (c0.fact 72 (f := .free "min") rfl)
  have z_max := He.free_ok X G (c0.fact 73 (f := .free "max") rfl)
  have z_enumerate := He.free_ok X G (c0.fact 74 (f := .free "enumerate") rfl)
  have z_sorted := He.free_ok X G (c0.fact 75 (f := .free "sorted") rfl)
  have z_zip := He.free_ok X G (c0.fact 76 (f := .free "zip") rfl)
  have z_all := He.free_ok X G (c0.fact 77 (f := .free "all") rfl)
  have z_list := He.free_ok X G (c0.fact 78 (f := .free "list") rfl)
  have z_str := He.free_ok X G (c0.fact 79 (f := .free "str") rfl)
  have z_ValueError := He.free_ok X G (c0.fact 80 (f := .free "ValueError") rfl)
  have z_divmod := He.free_ok X G (c0.fact 81 (f := .free "divmod") rfl)
  have T : Txt mg := ⟨z_len, z_tuple, z_int, z_bool, z_range, z_isinstance, z_abs, z_min, z_max, z_enumerate, z_sorted, z_zip, z_all, z_list⟩
  have BE := baseB_ok X G x_base
  have KE_DivisionByZero := kindB_ok X G (x := "DivisionByZero") (all_at x_kind 0 rfl)
  have KE_NotOneUnknown := kindB_ok X G (x := "NotOneUnknown") (all_at x_kind 1 rfl)
  have KE_InvalidPoly := kindB_ok X G (x := "InvalidPoly") (all_at x_kind 2 rfl)
  have KE_InvalidUnknown := kindB_ok X G (x := "InvalidUnknown") (all_at x_kind 3 rfl)
  have X_DivisionByZero := excB_ok KE_DivisionByZero (all_at x_exc 0 rfl)
  have X_NotOneUnknown := excB_ok KE_NotOneUnknown (all_at x_exc 1 rfl)
  have X_InvalidPoly := excB_ok KE_InvalidPoly (all_at x_exc 2 rfl)
  have OI_InvalidUnknown := ownB_ok (q := "InvalidUnknown.__init__") (st := si_InvalidUnknown) (ps := ["self", "unknown"]) KE_InvalidUnknown (all_at x_own 0 rfl) (c2.def_ 27 (d := dMet "InvalidUnknown" "__init__" "InvalidUnknown.__init__" si_InvalidUnknown []) rfl) (fun _ _ _ _ _ _ us hl => match us, hl with | [_, _], _ => rfl)
  have NA_InvalidUnknown_unknown := noat_ok (c0.fact 82 (f := .noat "InvalidUnknown" "unknown") rfl)
  have m_gcd := bltB_ok X G x_blt_gcd
  have T_P := polyB_ok X G x_poly
  obtain ⟨t_RUN, G__RUN⟩ := He.int_ok X G (c0.fact 83 (f := .int "_RUN" 600) rfl)
  have G_UNKNOWNS := He.glo_ok X G (c0.fact 84 (f := .glo "UNKNOWNS") rfl)
  have UU : ∀ H, SqT K H (He.ga K "UNKNOWNS") (US.map V.str) := fun H => He.tupB_ok x_tup_UNKNOWNS H
  have UE : ∀ H, SqT K H (He.dflAt ("Poly", some "__init__") 0 K) [] := fun H => tupA_ok x_dfl H
  obtain ⟨u1, u2⟩ := He.ba x_more0
  have nd := of_decide_eq_true u1
  have ne := not_in u2
  simp only [List.map_cons, List.map_nil, List.nodup_cons, List.mem_cons, List.not_mem_nil, or_false, not_or] at nd ne
  have eN1 := KE_NotOneUnknown.exm
  have eN2 := KE_NotOneUnknown.kit KE_InvalidUnknown (Ne.symm nd.2.1.2) (Ne.symm ne.2.2.2)
  have eN3 := KE_NotOneUnknown.kitE BE
  have eN4 := KE_NotOneUnknown.kitV
  have eU1 := KE_InvalidUnknown.exm
  have eU2 := KE_InvalidUnknown.kit KE_NotOneUnknown nd.2.1.2 (Ne.symm ne.2.1)
  have eU3 := KE_InvalidUnknown.kit KE_InvalidPoly nd.2.2.1 (Ne.symm ne.2.2.1)
  have eU4 := KE_InvalidUnknown.kitE BE
  have eP1 := KE_InvalidPoly.exm
  have eP2 := KE_InvalidPoly.kit KE_InvalidUnknown (Ne.symm nd.2.2.1) (Ne.symm ne.2.2.2)
  have eP3 := KE_InvalidPoly.kitE BE
  have eP4 := KE_InvalidPoly.kitV
  have XC_NotOneUnknown := KE_NotOneUnknown.x
  have XC_InvalidUnknown := KE_InvalidUnknown.x
  have XC_InvalidPoly := KE_InvalidPoly.x
  have G_CellspireError := BE.g
  have G_DivisionByZero := KE_DivisionByZero.g
  have G_NotOneUnknown := KE_NotOneUnknown.g
  have G_InvalidPoly := KE_InvalidPoly.g
  have G_InvalidUnknown := KE_InvalidUnknown.g
  have e0 := hfa.symm.trans D_law.mgf
  cases e0
  exact ⟨fd_law, fun s v => B_law s [v] rfl, fun base _ _ => all_law (T := T) (T_P := T_P) (z_str := z_str) (z_divmod := z_divmod) (z_ValueError := z_ValueError) (m_gcd := m_gcd) (UE := UE) (UU := UU) (G_UNKNOWNS := G_UNKNOWNS) (G__RUN := G__RUN) (X_DivisionByZero := X_DivisionByZero) (X_InvalidPoly := X_InvalidPoly) (X_NotOneUnknown := X_NotOneUnknown) (OI_InvalidUnknown := OI_InvalidUnknown) (NA_InvalidUnknown_unknown := NA_InvalidUnknown_unknown) (G_CellspireError := G_CellspireError) (G_NotOneUnknown := G_NotOneUnknown) (G_InvalidUnknown := G_InvalidUnknown) (G_InvalidPoly := G_InvalidPoly) (XC_NotOneUnknown := XC_NotOneUnknown) (XC_InvalidUnknown := XC_InvalidUnknown) (XC_InvalidPoly := XC_InvalidPoly) (eN1 := eN1) (eN2 := eN2) (eN3 := eN3) (eN4 := eN4) (eU1 := eU1) (eU2 := eU2) (eU3 := eU3) (eU4 := eU4) (eP1 := eP1) (eP2 := eP2) (eP3 := eP3) (eP4 := eP4) (D__changed := D__changed) (D__is_term := D__is_term) (D__mixed := D__mixed) (D__in_order := D__in_order) (D__collected := D__collected) (D_P_init := D_P_init) (D_fraction := D_fraction) (D_whole_power := D_whole_power) (D__digits := D__digits) (D__write_integer := D__write_integer) (D_write_fraction := D_write_fraction) (D_gcd_of := D_gcd_of) (D__of_terms := D__of_terms) (D__spread := D__spread) (D__multiplied := D__multiplied) (D_P_add := D_P_add) (D_P_sub := D_P_sub) (D_P_mul := D_P_mul) (D_P_neg := D_P_neg) (D_P_eq := D_P_eq) (D_P_degree := D_P_degree) (D_place_of := D_place_of) (D_P_degree_in := D_P_degree_in) (D_P_unknowns := D_P_unknowns) (D__ladder := D__ladder) (D_P_coefficients := D_P_coefficients) (D_P_value := D_P_value) (D_P_put := D_P_put) (D_P_as_row := D_P_as_row) (D_P_slope := D_P_slope) (D_P_primitive := D_P_primitive) (D__term_text := D__term_text) (D__text := D__text) (D_P_str := D_P_str) (D_P_constant := D_P_constant) (D_P_of_unknown := D_P_of_unknown) (D_P_of_row := D_P_of_row) (D__law_box := D__law_box) (D__law_mix := D__law_mix) (D__law_draw := D__law_draw) (D__law_gcd := D__law_gcd) (D__law_number := D__law_number) (D__law_is_int := D__law_is_int) (D__law_same := D__law_same) (D__law_power := D__law_power) (D__law_gather := D__law_gather) (D__law_join := D__law_join) (D__law_multiply := D__law_multiply) (D__law_is := D__law_is) (D__law_moved := D__law_moved) (D__law_terms := D__law_terms) (D__law_second := D__law_second) (D__law_made := D__law_made) (D__law_text := D__law_text) (D__law_fraction := D__law_fraction) (D__law_equal := D__law_equal) (D__law_operators := D__law_operators) (D__law_value := D__law_value) (D__law_coefficients := D__law_coefficients) (D__law_whole := D__law_whole) (D__law_row_of := D__law_row_of) (D__law_parts := D__law_parts) (D__law_simple := D__law_simple) (D__law_refuses_name := D__law_refuses_name) (D__law_refuses_terms := D__law_refuses_terms) (D__law_refusals := D__law_refusals) (D_law := D_law)⟩
end My
open PySem PySem.W PySem.Calls PyProof.Rows
theorem PySem.Challenge.cw_cellspire_k05_poly_operators_and_parts_holds : PySem.Challenge.rw_cellspire_k05_poly_operators_and_parts.Holds := by
  w_on; o_law
  refine HandSHeadRun.head_imp (r := OpenLaw.row PySem.Challenge.rw_cellspire_k05_poly_operators_and_parts) (q := view (OpenLaw.row PySem.Challenge.rw_cellspire_k05_poly_operators_and_parts).prog [0, 60]) (H := MyH.hk) (ob := fun s => My.obsQ MyH.as_ MyH.ps_ MyH.ex (HandSHeadRun.getT s)) (M := 20000) (loose := MyH.loose) (d := HandSHeadRun.topDef (OpenLaw.row PySem.Challenge.rw_cellspire_k05_poly_operators_and_parts).prog 60) (kwd := []) MyH.ob_eq
    MyH.run (by kernel_rfl) (by kernel_rfl) (by kernel_rfl) (by rfl) (by first | assumption | decide +kernel) (by decide +kernel) ⟨rfl, rfl, rfl, rfl, rfl, by decide +kernel⟩ ?hw ?hc
  case hw => w_witness2
  case hc =>
    refine My.walk_own (l := PySem.Challenge.rw_cellspire_k05_poly_operators_and_parts) (n := 63) (k := 11) (x := "script") (CX := fun w => L2.CX (PySem.Challenge.rw_cellspire_k05_poly_operators_and_parts).prog w) rfl (by decide) (by kernel_rfl) ⟨rfl, by decide, by decide⟩ ?F (fun _ _ _ _ _ h => My.cx_no h)
    intro w mg fa h Y G hmg0
    obtain ⟨K, KX, c, e⟩ := Y
    have hmg : mg ("law" : PySem.Str) = some (.ref fa) := by
      have e1 : (HandSHeadRun.topDef (OpenLaw.row PySem.Challenge.rw_cellspire_k05_poly_operators_and_parts).prog 60).name = ("law" : PySem.Str) := by kernel_rfl
      rw [← e1]
      exact hmg0
    obtain ⟨fd, hb, hF⟩ := My.facts (P := (PySem.Challenge.rw_cellspire_k05_poly_operators_and_parts).prog) (w := w) KX G hmg c e
    exact ⟨K, fd, My.sp_law K, KX, hb, fun H a ns hl _ hS => ⟨a, ns, rfl, hS, hl, fun _ => rfl⟩, hF⟩
