import PyProof.Rows.All
import Wide.All
import OpenK.AllK
import Wide.FinOn
import HandS.ForMost
import HandS.ForExc
import HandS.Wide
import HandS.WideBits
import HandS.TupAny
import HandS.Rev
import HandS.Walk
import HandS.IsInst
import HandS.ExcIs
import HandS.Small
import HandS.Gcd
import HandS.Defaults
import HandS.Evl
import KE.GoesMore
import KE.RegKIsAll
import HandS.ExcInit
import HandS.ExcInitHot
import HandS.ExcField
import HandS.HotCalls
import HandS.ExcCtx
import KE.KExcIs
import PySem.Challenge.RW_cellspire_k01_simplest_fraction
set_option Elab.async false
set_option linter.all false
set_option maxRecDepth 100000
set_option maxHeartbeats 4000000
namespace My
open PySem PySem.Spec PyProof.Rows L2

/-! ### rules that were lacking: * and // of any size, enumerate over a tuple, a def called by its name -/
section
variable {X : Cx}
theorem op_mulG : OpR X (binaryOp .Mult) (rI IntMulOk fun i j => .int (i * j)) := opI fun _ _ _ _ _ _ _ hc q => mul_int q hc
def CDivG (_ j : Int) : Prop := j ≠ 0 ∧ j.natAbs.log2 < 9000
theorem op_fdivG : OpR X (binaryOp .FloorDiv) (rI CDivG fun i j => .int (i.fdiv j)) := opI fun i j _ _ _ _ _ hc q => floordiv_int hc.1 q (.inl (PyProof.noPylong_of_log2 hc.2))
end
theorem mul_ok_r {i j : Int} (h : j.natAbs < 2 ^ 63) : IntMulOk i j := CMul.ok (.inr ⟨by omega, by omega⟩)
theorem mul_ok_l {i j : Int} (h : i.natAbs < 2 ^ 63) : IntMulOk i j := CMul.ok (.inl ⟨by omega, by omega⟩)
theorem mul_ok {i j : Int} {a b : Nat} (ha : i.natAbs < 2 ^ a) (hb : j.natAbs < 2 ^ b) (h : a + b ≤ 134217728) : IntMulOk i j := CMulX.ok (mulx_ok ha hb h)
theorem div_ok {i j : Int} {b : Nat} (h : j ≠ 0) (hb : j.natAbs < 2 ^ b) (h9 : b ≤ 9000) : CDivG i j := by
  have h0 : 0 < b := by
    rcases Nat.eq_zero_or_pos b with z | z
    · subst z
      have : j.natAbs < 1 := hb
      omega
    · exact z
  exact ⟨h, Nat.lt_of_lt_of_le (PySem.Flt.log2_lt_of h0 hb) h9⟩

section
variable {prog : Program} {w : World} {A : Around} {E : Value → Shared → Prop} {s : Shared}
set_option maxHeartbeats 1000000 in
theorem meets_enumerate_newT (a : Addr) (items : Array Value) :
    Meets (Builtin.«enumerate.__new__» ⟨[.type "enumerate", .ref a], []⟩) (fun _ R s => s.heap.IsTuple a items ∧
      R (.ok (.ret (.ref (s.heap.push { cls := .type "tuple_iterator", data := .fields #[.ref a, .int 0 0] }).objs.size)))
        { s with heap := (s.heap.push { cls := .type "tuple_iterator", data := .fields #[.ref a, .int 0 0] }).push { cls := .type "enumerate", data := .fields #[.none, .bool false, .ref s.heap.objs.size, rawInt 0, .none, .none] } }) :=
  .of_wp fun prog w A R s h => by
    obtain ⟨hp, g, d, tk, os⟩ := s
    obtain ⟨hT, h⟩ := h
    have hsub := sub_enumerate
    have q1 : ∀ {A' : Around} {E : Value → Shared → Prop} {Q : Value → Shared → Prop}, Q (.ref hp.objs.size) ⟨hp.push { cls := .type "tuple_iterator", data := .fields #[.ref a, .int 0 0] }, g, d, tk, os⟩ → wpAny (model prog w) A' (pyIter (.ref a)) Q E ⟨hp, g, d, tk, os⟩ :=
      fun q => wpAny_pyIter_tuple (s := ⟨hp, g, d, tk, os⟩) hT q
    wp_walk using q1
    refine wpAny_stack_any fun st => wpAny_pure ?_
    split
    · rename_i c _ _ _ _ _
      cases (c == Value.type "enumerate")
      · wp_walk using q1
        exact ⟨_, rfl, h⟩
      · wp_walk using q1
        exact ⟨_, rfl, h⟩
    · wp_walk using q1
      exact ⟨_, rfl, h⟩
theorem call_enumerate_tuple {a : Addr} {items : Array Value} {Q : Value → Shared → Prop} (hL : s.heap.IsTuple a items)
    (h : ∀ h', IsEnum h' (s.heap.objs.size + 1) s.heap.objs.size 0 .none → h'.IsTupleIter s.heap.objs.size a 0 → h'.objs.size = s.heap.objs.size + 2 →
      (∀ b o, s.heap.get? b = some o → h'.get? b = some o) → Q (.ref (s.heap.objs.size + 1)) { s with heap := h' }) :
    wpAny (model prog w) A (call (.type "enumerate") [.ref a]) Q E s := by
  refine callType_new F.called_enumerate (by decide) (F.typeCall_enumerate_1 _) (F.newCall_enumerate_1 _) (fun obj => F.args_object_init_2 obj _) F.entry_enumerate_new
    (meets_enumerate_newT a items) ⟨hL, ?_⟩
  have hz : (s.heap.push { cls := .type "tuple_iterator", data := .fields #[.ref a, .int 0 0] }).objs.size = s.heap.objs.size + 1 := Heap.size_push ..
  show _ ∧ _
  rw [hz]
  have he : IsEnum ((s.heap.push { cls := .type "tuple_iterator", data := .fields #[.ref a, .int 0 0] }).push
      { cls := .type "enumerate", data := .fields #[.none, .bool false, .ref s.heap.objs.size, rawInt 0, .none, .none] }) (s.heap.objs.size + 1) s.heap.objs.size 0 .none := by
    have := Heap.get?_push_size (s.heap.push { cls := .type "tuple_iterator", data := .fields #[.ref a, .int 0 0] })
      (o := { cls := .type "enumerate", data := .fields #[.none, .bool false, .ref s.heap.objs.size, rawInt 0, .none, .none] }) rfl
    rw [hz] at this; exact this
  refine ⟨⟨_, he, rfl⟩, h _ he ⟨_, Heap.get?_push_of_some _ (Heap.get?_push_size _ rfl), rfl, rfl⟩ (by rw [Heap.size_push, hz]) fun b o x => Heap.get?_push_of_some _ (Heap.get?_push_of_some _ x)⟩
end
def IteT (K : PySem.W.Frag) (a : Addr) (n : Nat) : It :=
  ⟨fun i H => i < n ∧ ∃ (xs : List V) (x : V), SqT K H a xs ∧ xs[i]? = some x, fun i H v H' => ∃ T x, v = .ref T ∧ H T = none ∧ H' = upd H T (.tup [.int (i : Nat), x]) ∧ ∀ xs, SqT K H a xs → xs[i]? = some x, fun i H => n ≤ i ∧ ∃ xs : List V, SqT K H a xs ∧ xs.length = n⟩
theorem turn_enumT {P : Program} {w : World} {K : PySem.W.Frag} {elts : List Expr} {kk : Nat} {tpos : Pos} (a e it : Addr) (n : Nat) :
    Turn P w K (.Tuple elts kk tpos) (IteT K a n) [e, it] e (fun i h => (∃ old, IsEnum h e it ((i : Nat) : Int) old) ∧ h.IsTupleIter it a i ∧ e ≠ it ∧ i ≤ n) where
  mem := by simp
  obj := fun i h st b hb => by
    obtain ⟨⟨old, he⟩, ⟨o, ho, hc, hd⟩, _⟩ := st
    have e' : b = e ∨ b = it := by simpa using hb
    rcases e' with z | z
    · rw [z]; exact ⟨_, he, fun v q => nomatch q⟩
    · rw [z]; exact ⟨o, ho, fun v q => by rw [hd] at q; cases q⟩
  keep := fun i h h' st k => let ⟨⟨old, he⟩, hi, hne⟩ := st; ⟨⟨old, k e (by simp) _ he⟩, hi.at fun o q => k it (by simp) o q, hne⟩
  item := by
    intro X hP hw hK hc i pins s σ H E I hf st hg
    subst hP hw hK
    obtain ⟨⟨old, he⟩, hit, hne, hin⟩ := st
    obtain ⟨hlt, xs, x, hq, hx⟩ := hg
    obtain ⟨its, rv, p, hz⟩ := I.tuple hq
    obtain ⟨u, hu, ru⟩ := rv.get hx
    have hel : e < s.heap.objs.size := Heap.lt_size he
    have hil : it < s.heap.objs.size := by obtain ⟨_, q, _⟩ := hit; exact Heap.lt_size q
    have ha : ∃ o, s.heap.get? a = some o ∧ o.cls = .type "tuple" := by obtain ⟨o, h1, h2, _⟩ := p; exact ⟨o, h1, h2⟩
    obtain ⟨oa, hoa, hca⟩ := ha
    have hae : a ≠ e := fun z => by
      rw [z, he] at hoa
      have hoa := Option.some.inj hoa
      rw [← hoa] at hca
      exact absurd (show Value.type "enumerate" = Value.type "tuple" from hca) (by decide)
    have hai : a ≠ it := fun z => by
      obtain ⟨o, h1, h2, _⟩ := hit
      rw [z, h1] at hoa
      cases hoa
      rw [h2] at hca
      exact absurd hca (by decide)
    have hT0 : s.heap.IsTuple a its.toArray := p
    have D := Draws.tuple (prog := X.prog) (w := X.w) (A := X.A.in1) (show X.A.in1.handled = none from I.ok.hd hc) it a hai its.toArray
    have hilt : i < its.toArray.size := by
      have := (List.getElem?_eq_some_iff.mp hu).1
      simpa using this
    refine wpAny_pyNext_enum_itemD D he ⟨hit, hT0⟩ hilt hne (by simp [hne, Ne.symm hae]) fun x' h' tk hP' ho hst' hT hsz hk => ?_
    have eu : x' = u := by
      have q : its.toArray[i]? = some x' := hP'
      rw [List.getElem?_toArray, hu] at q
      exact (Option.some.inj q).symm
    subst eu
    obtain ⟨hit', _⟩ := hst'
    refine ⟨_, rfl, wpAny_letOwnedTupleGo_enum (s := { s with heap := h', toks := tk + 1 }) ho fun h'' he' sb => ?_⟩
    have hT2 : h''.get? s.heap.objs.size = some { cls := .type "tuple", data := .seq #[.int i tk, x'] } := (sb.2 _ (Nat.ne_of_gt hel)).trans hT
    have new : ObjOk X.prog X.w (upd H s.heap.objs.size (.tup [.int (i : Nat), x])) h'' s.heap.objs.size (.tup [.int (i : Nat), x]) :=
      ⟨by show 2 ≤ sizeLine; decide, [.int i tk, x'], .cons ⟨_, rfl⟩ (.cons ru .nil), ⟨_, hT2, rfl, _, rfl⟩⟩
    have I1 : Inv X pins σ (upd H s.heap.objs.size (.tup [.int (i : Nat), x])) { s with heap := h'', toks := tk + 1 } :=
      I.turnedNew (ch := [e, it]) (fun b ob hb q => (sb.2 b (fun z => hb (by simp [z]))).trans (hk b ob (fun z => hb (by simp [z])) (fun z => hb (by simp [z])) q)) hf (Nat.le_refl _) new
    refine ⟨.ref s.heap.objs.size, _, I1, rfl, ⟨_, x, rfl, I.hok.fresh (Nat.le_refl _), rfl, fun ys hy => by rw [I.tuple_inj hy hq]; exact hx⟩, ⟨⟨x', ?_⟩, hit'.at fun o q => (sb.2 it (Ne.symm hne)).trans q, hne, hlt⟩, fun b hb => ?_⟩
    · have e1 : ((i + 1 : Nat) : Int) = (i : Int) + 1 := by omega
      rw [e1]; exact he'
    · have hb' : b < s.heap.objs.size := by
        have e' : b = e ∨ b = it := by simpa using hb
        rcases e' with z | z
        · rw [z]; exact hel
        · rw [z]; exact hil
      rw [upd_ne (Nat.ne_of_lt hb')]
      exact (hf b hb).1
  done := by
    intro X hP hw hK hc i pins s σ H E I hf st hg
    subst hP hw hK
    obtain ⟨⟨old, he⟩, hit, hne, hin⟩ := st
    obtain ⟨hge, xs, hq, hxl⟩ := hg
    obtain ⟨its, rv, p, hz⟩ := I.tuple hq
    obtain ⟨f0, f1, f2, f3, f4, f5⟩ := hf it (by simp)
    have hl := rv.length
    have ha : ∃ o, s.heap.get? a = some o ∧ o.cls = .type "tuple" := by obtain ⟨o, h1, h2, _⟩ := p; exact ⟨o, h1, h2⟩
    obtain ⟨oa, hoa, hca⟩ := ha
    have hai : a ≠ it := fun z => by
      obtain ⟨o, h1, h2, _⟩ := hit
      rw [z, h1] at hoa
      cases hoa
      rw [h2] at hca
      exact absurd hca (by decide)
    have D := Draws.tuple (prog := X.prog) (w := X.w) (A := X.A.in1) (show X.A.in1.handled = none from I.ok.hd hc) it a hai its.toArray
    have ei : i = its.toArray.size := by
      simp only [List.size_toArray]
      omega
    refine wpAny_pyNext_enum_endD D he (show s.heap.IsTupleIter it a its.toArray.size ∧ s.heap.IsTuple a its.toArray from ⟨by rw [← ei]; exact hit, p⟩) fun h' eb => ⟨rfl, I.turned (t' := s.toks) (fun b o hb q => eb b o hb q) f0 f1 f3 f4 f5⟩
  self := fun A i s Q E st h => let ⟨⟨_, he⟩, _⟩ := st; wpAny_pyIter_enum he h
def iEnumT (K : PySem.W.Frag) (ta : TA) : TI := fun σ H R => ta σ H fun vs H1 => ∃ a xs, vs = [.ref a] ∧ SqT K H1 a xs ∧ R (IteT K a xs.length) H1
theorem pi_enumT {X : Cx} {e : Expr} {ta : TA} {p pos tpos : Pos} {elts : List Expr} {kk : Nat} (hg : Gl X "enumerate") (hm : X.mg "enumerate" = none) (ha : PA X [e] ta) (hs : starEach [e] X.env = [(false, eval e X.env)] := by rfl) :
    PI X (.Tuple elts kk tpos) (.Call (.Name "enumerate" p) [e] [] pos) (iEnumT X.K ta) := by
  refine ⟨fun pins s σ H R I h => ?_⟩
  refine Call_ (ld_blt I hg hm boot_enumerate (PyProof.Rows.callWith_type1 (thn (ha.run pos pins s σ H _ I h) fun us s1 ⟨vs, H1, I1, r1, q1⟩ => ?_) hs rfl))
  obtain ⟨a, xs, ex, hq, q⟩ := q1
  subst ex
  cases r1 with
  | cons r rr =>
    cases rr
    cases r
    obtain ⟨its, rv, p', hz⟩ := I1.tuple hq
    refine call_enumerate_tuple (show s1.heap.IsTuple a its.toArray from p') fun h' he hit hsz hk => wpAny_pyIter_enum he ?_
    have I2 : Inv X pins σ H1 { s1 with heap := h' } := I1.kept (t' := s1.toks) hk
    refine ⟨s1.heap.objs.size + 1, [s1.heap.objs.size + 1, s1.heap.objs.size], _, _, H1, rfl, I2, turn_enumT a (s1.heap.objs.size + 1) s1.heap.objs.size xs.length, ⟨⟨.none, he⟩, hit, Nat.succ_ne_self _, Nat.zero_le _⟩, fun b hb => ?_, q⟩
    have e' : b = s1.heap.objs.size + 1 ∨ b = s1.heap.objs.size := by simpa using hb
    have hle : s1.heap.objs.size ≤ b := by
      rcases e' with z | z
      · rw [z]; exact Nat.le_add_right _ _
      · rw [z]; exact Nat.le_refl _
    exact I1.fpOk hle (I1.hok.fresh hle)
theorem walk_enumT {K : PySem.W.Frag} {a : Addr} {xs : List V} : Walk (IteT K a xs.length) xs.length (fun H => SqT K H a xs) (YPair (fun i => some (.int (i : Nat))) (fun i => xs[i]?)) := by
  refine ⟨fun i _ hi q => ⟨hi, xs, xs[i], q, by simp [hi]⟩, fun _ q => ⟨Nat.le_refl _, xs, q, rfl⟩, fun i H v H' _ q y => ?_⟩
  obtain ⟨T, x, h1, h2, h3, h4⟩ := y
  exact ⟨T, .int (i : Nat), x, h1, h2, h3, rfl, h4 xs q⟩

/-! ### a def that may be called by its name; what it lets out is told by the promise -/
structure Cal (P : Program) (w : World) (K : PySem.W.Frag) (mg : Str → Option Value) (base : Heap) (k : Nat) (x : Str) (sp : Sp) : Prop where
  ex : ∃ (f : Addr) (fd : FuncData) (ps : List Str), FnOk P w K mg base (L2.CX P w) k f fd ps sp ∧ mg x = some (.ref f) ∧ PySem.W.keepIn K (.ref f) = true ∧ Binds K fd ps []
/-- a def of the module under its name -/
structure DefF (K : PySem.W.Frag) (mg : Str → Option Value) (x : Str) (st : Stmt) (ps : List Str) (f : Addr) (fd : FuncData) : Prop where
  fn : Fun K x x st f fd
  mgf : mg x = some (.ref f)
  bi : Binds K fd ps []
section
variable {P : Program} {w : World} {K : PySem.W.Frag} {mg : Str → Option Value} {base : Heap}
/-- a def that raises nothing -/
theorem cal_of {x : Str} {st : Stmt} {f : Addr} {fd : FuncData} {N ps : List Str} {k : Nat} {sp : Sp} (F : DefF K mg x st ps f fd) (S : FnScope N ps (defScope st)) (len : ∀ vs H Q E, sp vs H Q E → vs.length = ps.length)
    (hbody : ∀ (cdv : Value) (A : Around) (outer : List Env) (s : Shared) (H : Hp) (vs : List V) (Q : VK) (E : XK), Room k (A.deeper (envOfC x (defScope st) s.heap.objs.size f cdv)) → sp vs H Q E →
      ∃ t, PSs (cxOf (L2.CX P w) P w K mg base N x (defScope st) f cdv A outer s H E).nox (defBody st) t ∧ t { nx := fun _ H' => Q .non H', rt := Q } (start N vs) H) : Cal P w K mg base (k + 1) x sp :=
  ⟨f, fd, ps, F.fn.okX S len fun cdv A outer s H vs Q E hr h => let ⟨t, h1, h2⟩ := hbody cdv A outer s H vs Q E hr h; ⟨t, h1.nox, h2⟩, F.mgf, F.fn.kp, F.bi⟩
/-- a def that may raise -/
theorem cal_ofX {x : Str} {st : Stmt} {f : Addr} {fd : FuncData} {N ps : List Str} {k : Nat} {sp : Sp} (F : DefF K mg x st ps f fd) (S : FnScope N ps (defScope st)) (len : ∀ vs H Q E, sp vs H Q E → vs.length = ps.length)
    (hbody : ∀ (cdv : Value) (A : Around) (outer : List Env) (s : Shared) (H : Hp) (vs : List V) (Q : VK) (E : XK), Room k (A.deeper (envOfC x (defScope st) s.heap.objs.size f cdv)) → sp vs H Q E →
      ∃ t, PSs (cxOf (L2.CX P w) P w K mg base N x (defScope st) f cdv A outer s H E) (defBody st) t ∧ t { nx := fun _ H' => Q .non H', rt := Q } (start N vs) H) : Cal P w K mg base (k + 1) x sp :=
  ⟨f, fd, ps, F.fn.okX S len hbody, F.mgf, F.fn.kp, F.bi⟩
theorem Cal.mono {x : Str} {j k : Nat} {sp : Sp} (c : Cal P w K mg base j x sp) (h : j ≤ k) : Cal P w K mg base k x sp :=
  let ⟨f, fd, ps, F, r⟩ := c.ex; ⟨f, fd, ps, F.mono h, r⟩
theorem Cal.imp {x : Str} {k : Nat} {sp sp' : Sp} (c : Cal P w K mg base k x sp) (h : ∀ vs H Q E, sp' vs H Q E → sp vs H Q E) : Cal P w K mg base k x sp' :=
  let ⟨f, fd, ps, F, r⟩ := c.ex; ⟨f, fd, ps, F.imp h, r⟩
end
section
variable {X : Cx} {k j : Nat} {x : Str} {sp : Sp} {p pos : Pos} {e : Expr} {es : List Expr} {t : TA}
/-- f(e, ..), nothing is let out -/
theorem pe_cc (c : Cal X.prog X.w X.K X.mg X.base k x sp) (hr : Room j X.A) (hk : k ≤ j) (hg : Gl X x) (ha : PA X (e :: es) t)
    (hdb : (x == ("__debug__" : Str)) = false := by decide) (he : starEach (e :: es) X.env = (false, eval e X.env) :: starEach es X.env := by rfl) (hpl : (backTo pos (starEach es X.env)).any (·.1) = false := by rfl) :
    PE X (.Call (.Name x p) (e :: es) [] pos) (tCall sp [] E0 t) := by
  obtain ⟨f, fd, ps, F, hm, kp, b⟩ := c.ex
  exact pe_call F (hr.mono hk) hg hm kp b .nil passL ha hdb he hpl
/-- f(e, ..) within a try: what is let out is wished for at the caller's slots -/
theorem pe_ccS {W : WX} (c : Cal X.prog X.w X.K X.mg X.base k x sp) (hr : Room j X.A) (hk : k ≤ j) (hg : Gl X x) (tk : Takes X W) (ha : PA X (e :: es) t)
    (hdb : (x == ("__debug__" : Str)) = false := by decide) (he : starEach (e :: es) X.env = (false, eval e X.env) :: starEach es X.env := by rfl) (hpl : (backTo pos (starEach es X.env)).any (·.1) = false := by rfl) :
    PE X (.Call (.Name x p) (e :: es) [] pos) (tCallS sp (WE W) t) := by
  obtain ⟨f, fd, ps, F, hm, kp, b⟩ := c.ex
  exact pe_callS F (hr.mono hk) hg hm kp b (fun σ => passAt tk σ) ha hdb he hpl
end

/-! ### how the heap may change: all that is tracked stands, but for lists at L -/
def Ch (L : List Addr) (H H' : Hp) : Prop := ∀ a o, H a = some o → H' a = some o ∨ (a ∈ L ∧ ∃ xs ys, o = .lst xs ∧ H' a = some (.lst ys))
section
variable {L M : List Addr} {H H1 H2 H' : Hp} {K : PySem.W.Frag} {a b l p : Addr} {xs ys : List V} {o : HO}
theorem Ch.refl : Ch L H H := fun _ _ h => .inl h
theorem Ch.mono (c : Ch L H H') (h : ∀ a ∈ L, a ∈ M) : Ch M H H' := fun a o e => (c a o e).imp id fun ⟨m, r⟩ => ⟨h a m, r⟩
theorem Ch.of0 (c : Ch [] H H') : Ch L H H' := c.mono fun _ m => nomatch m
theorem Ch.trans (c : Ch L H H1) (d : Ch L H1 H2) : Ch L H H2 := fun a o e => by
  rcases c a o e with h | ⟨m, xs, ys, rfl, h⟩
  · exact d a o h
  · rcases d a _ h with h2 | ⟨_, _, zs, _, h2⟩
    · exact .inr ⟨m, xs, ys, rfl, h2⟩
    · exact .inr ⟨m, xs, zs, rfl, h2⟩
/-- a list that was new may change as it will -/
theorem Ch.cut (c : Ch L H H1) (hn : H l = none) (d : Ch [l] H1 H2) : Ch L H H2 := fun a o e => by
  have ne : a ≠ l := ne_of_none e hn
  rcases c a o e with h | ⟨m, xs, ys, rfl, h⟩
  · rcases d a o h with h2 | ⟨m2, _⟩
    · exact .inl h2
    · exact absurd (List.mem_singleton.mp m2) ne
  · rcases d a _ h with h2 | ⟨m2, _⟩
    · exact .inr ⟨m, xs, ys, rfl, h2⟩
    · exact absurd (List.mem_singleton.mp m2) ne
theorem Ch.trans0 (c : Ch L H H1) (d : Ch [] H1 H2) : Ch L H H2 := c.trans d.of0
theorem Ch.new (h : H p = none) : Ch [] H (upd H p o) := fun a u e => .inl (by rw [upd_ne (ne_of_none e h)]; exact e)
theorem Ch.set (h : H l = some (.lst xs)) : Ch [l] H (upd H l (.lst ys)) := fun a u e => by
  by_cases q : a = l
  · subst q
    rw [h] at e
    cases e
    exact .inr ⟨List.mem_singleton.mpr rfl, xs, ys, rfl, upd_same⟩
  · exact .inl (by rw [upd_ne q]; exact e)
theorem Ch.free (c : Ch L H H') (h : H' p = none) : H p = none := by
  cases q : H p with
  | none => rfl
  | some u =>
    rcases c p u q with e | ⟨_, _, _, _, e⟩
    · rw [h] at e
      cases e
    · rw [h] at e
      cases e
theorem Ch.tup (c : Ch L H H') (h : H a = some (.tup xs)) : H' a = some (.tup xs) := by
  rcases c a _ h with e | ⟨_, _, _, q, _⟩
  · exact e
  · cases q
theorem Ch.frz {ob : Obj} {u : HO} (c : Ch L H H') (h : H a = some (.frz ob u)) : H' a = some (.frz ob u) := by
  rcases c a _ h with e | ⟨_, _, _, q, _⟩
  · exact e
  · cases q
theorem Ch.sqT (c : Ch L H H') (h : SqT K H a xs) : SqT K H' a xs := by
  rcases h with (h | ⟨o, h⟩) | h
  · exact .inl (.inl (c.tup h))
  · exact .inl (.inr ⟨o, c.frz h⟩)
  · exact .inr h
theorem Ch.at0 (c : Ch [] H H') (h : H a = some o) : H' a = some o := (c a o h).elim id fun ⟨m, _⟩ => nomatch m
theorem Ch.at1 (c : Ch [l] H H') (ne : a ≠ l) (h : H a = some o) : H' a = some o := (c a o h).elim id fun ⟨m, _⟩ => absurd (List.mem_singleton.mp m) ne
theorem Ch.sq0 (c : Ch [] H H') (h : SqL K H a xs) : SqL K H' a xs := by
  rcases h with (h | ⟨o, h⟩) | h
  · exact .inl (.inl (c.at0 h))
  · exact .inl (.inr ⟨o, c.frz h⟩)
  · exact .inr h
theorem Ch.same (c : Ch [] H H') : Same H H' := fun a o h => c.at0 h
end

/-! ### ints as values -/
abbrev ivs (p : List Int) : List V := p.map V.int
theorem ivs_get {p : List Int} {i : Nat} {x : Int} (h : p[i]? = some x) : (ivs p)[i]? = some (.int x) := by
  rw [List.getElem?_map, h]
  rfl
theorem ivs_get_inv {p : List Int} {i : Nat} {v : V} (h : (ivs p)[i]? = some v) : ∃ x, p[i]? = some x ∧ v = .int x := by
  rw [List.getElem?_map] at h
  cases e : p[i]? with
  | none =>
    rw [e] at h
    cases h
  | some x =>
    rw [e] at h
    exact ⟨x, rfl, (Option.some.inj h).symm⟩
theorem atI_ivs {p : List Int} {i : Nat} {k : Int} (hk : k = (i : Int)) (h : i < p.length) : atI (ivs p) k = some (.int p[i]) := by
  subst hk
  exact atI_nat (ivs_get (List.getElem?_eq_getElem h))
theorem atI_int {p : List Int} {k x : Int} {i : Nat} (hk : k = (i : Int)) (h : p[i]? = some x) : atI (ivs p) k = some (.int x) := by
  subst hk
  exact atI_nat (ivs_get h)
theorem sz_le {n : Nat} (h : n ≤ 100000) : n ≤ sizeLine := Nat.le_trans h (by decide)
theorem sz_lt {n : Nat} (h : n < 100000) : n < sizeLine := Nat.lt_of_lt_of_le h (by decide)

/-! ### readings, step by step; the ends of a block stand as a constructor -/
section
variable {σ : L2.St} {H : Hp} {Q : VK} {K : PySem.W.Frag} {ta tb te : TE} {t u : TS} {D : Ends} {a : Addr} {xs : List V} {v x y : V} {i j : Int} {n : Nat} {r : R2}
  {N B C : L2.St → Hp → Prop} {R : VK}
theorem w_seq (h : t ⟨u ⟨N, R, B, C⟩, R, B, C⟩ σ H) : tSeq t u ⟨N, R, B, C⟩ σ H := h
theorem w_asg (h : te σ H fun x H1 => N (σ.set n (some x)) H1) : tAsg te (gName n) ⟨N, R, B, C⟩ σ H := h
theorem w_asgG {g : TG} (h : te σ H fun x H1 => g x σ H1 N) : tAsg te g ⟨N, R, B, C⟩ σ H := h
theorem w_ret (h : te σ H R) : tRet te ⟨N, R, B, C⟩ σ H := h
theorem w_drop (h : te σ H fun _ H1 => N σ H1) : tDrop te ⟨N, R, B, C⟩ σ H := h
theorem w_if {c : TT} (h : c σ H fun b H1 => if b = true then t ⟨N, R, B, C⟩ σ H1 else u ⟨N, R, B, C⟩ σ H1) : tIfS c t u ⟨N, R, B, C⟩ σ H := h
theorem w_next (h : N σ H) : tNext ⟨N, R, B, C⟩ σ H := h
theorem w_break (h : B σ H) : tBreak ⟨N, R, B, C⟩ σ H := h
theorem w_continue (h : C σ H) : tCont ⟨N, R, B, C⟩ σ H := h
theorem w_par {n m : Nat} {tr : TA} (h : tr σ H fun vs H1 => ∃ v w, vs = [v, w] ∧ N ((σ.set n (some v)).set m (some w)) H1) : tPar n m tr ⟨N, R, B, C⟩ σ H := h
theorem w_two {w : V} {S : V → V → Prop} (h : S v w) : ∃ v' w', [v, w] = [v', w'] ∧ S v' w' := ⟨v, w, rfl, h⟩
theorem w_cut {M : L2.St → Hp → Prop} (h : t ⟨M, R, B, C⟩ σ H) (k : ∀ σ' H', M σ' H' → u ⟨N, R, B, C⟩ σ' H') : Evl.tCut t u ⟨N, R, B, C⟩ σ H := ⟨M, h, k⟩
theorem w_var (e : σ[n]? = some (some v)) (h : Q v H) : tVar n σ H Q := ⟨v, e, h⟩
theorem w_c (h : Q v H) : tC v σ H Q := h
theorem w_op (h : ta σ H fun x H1 => tb σ H1 fun y H2 => r x y H2 Q) : tOp r ta tb σ H Q := h
theorem w_un {f : V → Hp → VK → Prop} (h : ta σ H fun x H1 => f x H1 Q) : tUn f ta σ H Q := h
theorem w_I0 {g : Int → Int → V} (h : Q (g i j) H) : rI0 g (.int i) (.int j) H Q := ⟨i, j, rfl, rfl, h⟩
theorem w_I {C : Int → Int → Prop} {g : Int → Int → V} (c : C i j) (h : Q (g i j) H) : rI C g (.int i) (.int j) H Q := ⟨i, j, rfl, rfl, c, h⟩
theorem w_mod {g : Int → Int → V} (c : 0 < j) (h : Q (g i j) H) : rI (fun _ j => 0 < j) g (.int i) (.int j) H Q := ⟨i, j, rfl, rfl, c, h⟩
theorem w_div {g : Int → Int → V} (c : 0 < j) (d : j < 1073741824) (h : Q (g i j) H) : rI CDiv g (.int i) (.int j) H Q := ⟨i, j, rfl, rfl, ⟨c, d⟩, h⟩
theorem w_pow {g : Int → Int → V} (c : 0 ≤ j) (d : j ≤ 1000000) (e : i.natAbs < 2 ^ 64) (h : Q (g i j) H) : rI CPow g (.int i) (.int j) H Q := ⟨i, j, rfl, rfl, ⟨c, d, e⟩, h⟩
theorem w_mulr {g : Int → Int → V} (c : j.natAbs < 2 ^ 63) (h : Q (g i j) H) : rI IntMulOk g (.int i) (.int j) H Q := ⟨i, j, rfl, rfl, mul_ok_r c, h⟩
theorem w_mull {g : Int → Int → V} (c : i.natAbs < 2 ^ 63) (h : Q (g i j) H) : rI IntMulOk g (.int i) (.int j) H Q := ⟨i, j, rfl, rfl, mul_ok_l c, h⟩
theorem w_U {g : Int → V} (h : Q (g i) H) : rU g (.int i) H Q := ⟨i, rfl, h⟩
theorem w_eqI (h : Q (.bl (decide (i = j))) H) : rEq (.int i) (.int j) H Q := ⟨rfl, by
  have e : decide (V.int i = V.int j) = decide (i = j) := by
    by_cases q : i = j
    · subst q
      rw [decide_eq_true rfl, decide_eq_true rfl]
    · rw [decide_eq_false q, decide_eq_false fun z => q (V.int.inj z)]
  rw [e]
  exact h⟩
theorem w_neI (h : Q (.bl (!decide (i = j))) H) : rNe (.int i) (.int j) H Q := ⟨rfl, by
  have e : decide (V.int i = V.int j) = decide (i = j) := by
    by_cases q : i = j
    · subst q
      rw [decide_eq_true rfl, decide_eq_true rfl]
    · rw [decide_eq_false q, decide_eq_false fun z => q (V.int.inj z)]
  rw [e]
  exact h⟩
theorem w_ixT (h : SqT K H a xs) (e : atI xs i = some v) (q : Q v H) : rIxT K (.ref a) (.int i) H Q := ⟨a, xs, i, v, rfl, rfl, h, e, q⟩
theorem w_ixL (h : SqL K H a xs) (e : atI xs i = some v) (q : Q v H) : rIxL K (.ref a) (.int i) H Q := ⟨a, xs, i, v, rfl, rfl, h, e, q⟩
theorem w_ixTi {p : List Int} {z : Int} {k : Nat} (h : SqT K H a (ivs p)) (hk : i = (k : Int)) (e : p[k]? = some z) (q : Q (.int z) H) : rIxT K (.ref a) (.int i) H Q := w_ixT h (atI_int hk e) q
theorem w_ixLi {p : List Int} {z : Int} {k : Nat} (h : H a = some (.lst (ivs p))) (hk : i = (k : Int)) (e : p[k]? = some z) (q : Q (.int z) H) : rIxL K (.ref a) (.int i) H Q := w_ixL (.of h) (atI_int hk e) q
theorem w_test {R : Bool → Hp → Prop} (h : te σ H fun x H' => ∃ k, x = .bl k ∧ R k H') : tTest te σ H R := h
theorem w_B {R : Bool → Hp → Prop} (h : te σ H fun x H' => ∃ k, x = .bl k ∧ R k H') : tB te σ H R := h
theorem w_bl {R : Bool → Prop} {b : Bool} (h : R b) : ∃ k, V.bl b = .bl k ∧ R k := ⟨b, rfl, h⟩
theorem w_int {R : Int → Prop} (h : R i) : ∃ k, V.int i = .int k ∧ R k := ⟨i, rfl, h⟩
theorem w_N {R : L2.St → Hp → Prop} {S : (L2.St → Hp → Prop) → Prop} (h : S R) : ∃ N : L2.St → Hp → Prop, (∀ σ' H', N σ' H' → R σ' H') ∧ S N := ⟨R, fun _ _ h => h, h⟩
theorem w_start {N : List Str} {vs : List V} (e : L2.start N vs = σ) (h : t D σ H) : t D (L2.start N vs) H := e ▸ h
theorem w_and {c d : TT} {R : Bool → Hp → Prop} (h : c σ H fun b H1 => if b = true then d σ H1 R else R false H1) : tAnd c d σ H R := h
theorem w_or {c d : TT} {R : Bool → Hp → Prop} (h : c σ H fun b H1 => if b = true then R true H1 else d σ H1 R) : tOr c d σ H R := h
theorem w_not {c : TT} {R : Bool → Hp → Prop} (h : c σ H fun b H1 => R (!b) H1) : tNot c σ H R := h
theorem w_andV (h : ta σ H fun x H1 => ∃ c, x = .bl c ∧ if c = true then tb σ H1 Q else Q (.bl false) H1) : tAndV ta tb σ H Q := h
theorem w_orV (h : ta σ H fun x H1 => ∃ c, x = .bl c ∧ if c = true then Q (.bl true) H1 else tb σ H1 Q) : tOrV ta tb σ H Q := h
theorem w_notV (h : ta σ H fun x H1 => ∃ c, x = .bl c ∧ Q (.bl (!c)) H1) : tNotV ta σ H Q := h
theorem w_ifE {c : TT} (h : c σ H fun b H1 => if b = true then ta σ H1 Q else tb σ H1 Q) : tIf c ta tb σ H Q := h
theorem w_nil {R : List V → Hp → Prop} (h : R [] H) : tNil σ H R := h
theorem w_cons {tr : TA} {R : List V → Hp → Prop} (h : ta σ H fun x H1 => tr σ H1 fun xs H2 => R (x :: xs) H2) : tCons ta tr σ H R := h
theorem w_cb {f : List V → Hp → VK → Prop} {tr : TA} (h : tr σ H fun vs H1 => f vs H1 Q) : tCB f tr σ H Q := h
theorem w_call {sp : Sp} {dvs : List V} {E : XK} {tr : TA} (h : tr σ H fun vs H1 => sp (vs ++ dvs) H1 Q E) : tCall sp dvs E tr σ H Q := h
/-- a new object, and the heap behind it as a letter -/
theorem w_new {o : HO} {R : Addr → Hp → Prop} (h : ∀ p H', H p = none → Ch [] H H' → H' p = some o → R p H') : ∀ p, H p = none → R p (upd H p o) := fun p hp => h p _ hp (Ch.new hp) upd_same
/-- the tuple, the list of these items, new -/
def NewT (xs : List V) (H : Hp) (Q : VK) : Prop := xs.length ≤ sizeLine ∧ ∀ p, H p = none → Q (.ref p) (upd H p (.tup xs))
def NewL (xs : List V) (H : Hp) (Q : VK) : Prop := xs.length ≤ sizeLine ∧ ∀ p, H p = none → Q (.ref p) (upd H p (.lst xs))
theorem w_tup {tr : TA} (h : tr σ H fun xs H1 => NewT xs H1 Q) : tTup tr σ H Q := h
theorem w_lst {tr : TA} (h : tr σ H fun xs H1 => NewL xs H1 Q) : tLst tr σ H Q := h
theorem w_newT (hl : xs.length ≤ sizeLine) (q : ∀ p H', H p = none → Ch [] H H' → H' p = some (.tup xs) → Q (.ref p) H') : NewT xs H Q := ⟨hl, w_new q⟩
theorem w_newL (hl : xs.length ≤ sizeLine) (q : ∀ p H', H p = none → Ch [] H H' → H' p = some (.lst xs) → Q (.ref p) H') : NewL xs H Q := ⟨hl, w_new q⟩
theorem ite_b {A B : Prop} {b : Bool} (h1 : b = true → A) (h2 : b = false → B) : if b = true then A else B := by
  cases b with
  | true =>
    rw [if_pos rfl]
    exact h1 rfl
  | false =>
    rw [if_neg Bool.false_ne_true]
    exact h2 rfl
theorem ite_d {A B P : Prop} [Decidable P] (h1 : P → A) (h2 : ¬ P → B) : if decide P = true then A else B := ite_b (fun e => h1 (of_decide_eq_true e)) fun e => h2 (of_decide_eq_false e)
theorem ite_nd {A B P : Prop} [Decidable P] (h1 : ¬ P → A) (h2 : P → B) : if (!decide P) = true then A else B := ite_b (fun e => h1 (by simpa using e)) fun e => h2 (by simpa using e)
theorem ite_t {A B : Prop} (h : A) : if true = true then A else B := by rw [if_pos rfl]; exact h
theorem ite_f {A B : Prop} (h : B) : if false = true then A else B := by rw [if_neg Bool.false_ne_true]; exact h
theorem ite_dt {A B P : Prop} [Decidable P] (p : P) (h : A) : if decide P = true then A else B := by rw [if_pos (decide_eq_true p)]; exact h
theorem ite_df {A B P : Prop} [Decidable P] (p : ¬ P) (h : B) : if decide P = true then A else B := by rw [if_neg (fun e => p (of_decide_eq_true e))]; exact h
end

/-! ### built-ins, by values, under names -/
def rLen (K : PySem.W.Frag) : List V → Hp → VK → Prop := fun xs H Q => ∃ p ys, xs = [.ref p] ∧ (SqL K H p ys ∨ SqT K H p ys) ∧ Q (.int ys.length) H
def rListOf (K : PySem.W.Frag) : List V → Hp → VK → Prop := fun xs H Q => ∃ p ys, xs = [.ref p] ∧ (SqL K H p ys ∨ SqT K H p ys) ∧ ∀ l, H l = none → Q (.ref l) (upd H l (.lst ys))
def rTupleOf (K : PySem.W.Frag) : List V → Hp → VK → Prop := fun xs H Q => ∃ p ys, xs = [.ref p] ∧ ((SqL K H p ys ∧ ∀ l, H l = none → Q (.ref l) (upd H l (.tup ys))) ∨ (SqT K H p ys ∧ Q (.ref p) H))
def rAbs : List V → Hp → VK → Prop := fun xs H Q => ∃ i, xs = [.int i] ∧ Q (.int (if i < 0 then -i else i)) H
def rMax2 : List V → Hp → VK → Prop := fun xs H Q => ∃ i j, xs = [.int i, .int j] ∧ Q (.int (if j > i then j else i)) H
def rMin2 : List V → Hp → VK → Prop := fun xs H Q => ∃ i j, xs = [.int i, .int j] ∧ Q (.int (if j < i then j else i)) H
def rInt1 : List V → Hp → VK → Prop := fun xs H Q => (∃ i, xs = [.int i] ∧ Q (.int i) H) ∨ ∃ k, xs = [.bl k] ∧ Q (.int (if k then 1 else 0)) H
section
variable {X : Cx}
theorem cb_len : CallR X (.builtin "len") (rLen X.K) := call_len_seq
theorem cb_list : CallR X (.type "list") (rListOf X.K) := call_list_of
theorem cb_tuple : CallR X (.type "tuple") (rTupleOf X.K) := call_tuple_of
theorem cb_abs : CallR X (.builtin "abs") rAbs := call_abs
theorem cb_max2 (hc : X.calm = true) : CallR X (.builtin "max") rMax2 := call_max2 hc
theorem cb_min2 (hc : X.calm = true) : CallR X (.builtin "min") rMin2 := call_min2 hc
theorem cb_int : CallR X (.type "int") rInt1 := call_int1
end
section
variable {X : Cx} {K : PySem.W.Frag} {tg : Expr}
theorem k_len (h : X.K = K) : CallR X (.builtin "len") (rLen K) := h ▸ cb_len
theorem k_list (h : X.K = K) : CallR X (.type "list") (rListOf K) := h ▸ cb_list
theorem k_tuple (h : X.K = K) : CallR X (.type "tuple") (rTupleOf K) := h ▸ cb_tuple
theorem k_all (h : X.K = K) (hc : X.calm = true) : CallR X (.builtin "all") (rAll K) := h ▸ cr_all hc
theorem k_any (h : X.K = K) (hc : X.calm = true) : CallR X (.builtin "any") (rAny K) := h ▸ cr_any hc
theorem k_sum (h : X.K = K) (hc : X.calm = true) : CallR X (.builtin "sum") (rSum K) := h ▸ cr_sum hc
theorem k_isi (h : X.K = K) : CallR X (.builtin "isinstance") (rIsi K) := h ▸ call_isi
theorem k_ixL (h : X.K = K) : IxR X (rIxL K) := h ▸ ix_list
theorem k_ixT (h : X.K = K) : IxR X (rIxT K) := h ▸ ix_tup
theorem k_slL (h : X.K = K) : SlR X (rSlL K) := h ▸ sl_list
theorem k_slT (h : X.K = K) : SlR X (rSlA K) := h ▸ sl_tupA
theorem k_catT (h : X.K = K) : OpR X (binaryOp .Add) (rCatA K) := h ▸ op_catA
theorem k_eqD (h : X.K = K) (hu : X.A.units + 64 < cLine) : OpR X (compareOp .Eq) (rEqD K) := h ▸ op_eqD hu
theorem k_neD (h : X.K = K) (hu : X.A.units + 64 < cLine) : OpR X (compareOp .NotEq) (rNeD K) := h ▸ op_neD hu
theorem k_inS (h : X.K = K) : OpR X (compareOp .In) (rIn K false) := h ▸ op_in_seq
theorem k_niS (h : X.K = K) : OpR X (compareOp .NotIn) (rIn K true) := h ▸ op_notIn_seq
theorem k_piL {l : Expr} {tl : TE} (h : X.K = K) (hl : PE X l tl) : PI X tg l (iList K tl) := h ▸ pi_list hl
theorem k_piT {l : Expr} {tl : TE} (h : X.K = K) (hl : PE X l tl) : PI X tg l (iTup K tl) := h ▸ pi_tup hl
theorem k_piE {e : Expr} {ta : TA} {p pos tpos : Pos} {elts : List Expr} {kk : Nat} (h : X.K = K) (hg : Gl X "enumerate") (hm : X.mg "enumerate" = none) (ha : PA X [e] ta) (hs : starEach [e] X.env = [(false, eval e X.env)] := by rfl) :
    PI X (.Tuple elts kk tpos) (.Call (.Name "enumerate" p) [e] [] pos) (iEnumT K ta) := h ▸ pi_enumT hg hm ha hs
theorem k_piV {e : Expr} {te : TE} {p pos : Pos} (h : X.K = K) (hg : Gl X "reversed") (hm : X.mg "reversed" = none) (he : PE X e te) (hs : starEach [e] X.env = (false, eval e X.env) :: starEach [] X.env := by rfl) : PI X tg (.Call (.Name "reversed" p) [e] [] pos) (RT.iRevA K te) := h ▸ RT.pi_revA hg hm he hs
theorem k_gtup {es : List Expr} {k : Nat} {t : TGs} {n : Nat} {pos : Pos} (h : X.K = K) (hc : X.calm = true) (hp : PGs X es t)
    (hn : (assignEach es X.env).length = n := by rfl) (hst : (assignEach es X.env).findIdx? (·.1) = none := by rfl) : PG X (.Tuple es k pos) (gTup K n t) := h ▸ pg_tup hc hp hn hst
end
section
variable {σ : L2.St} {H : Hp} {Q : VK} {K : PySem.W.Frag} {a p : Addr} {xs : List V} {v : V} {i j : Int} {k n : Nat} {lo hi : Option Int}
theorem w_lenL (h : SqL K H a xs) (q : Q (.int xs.length) H) : rLen K [.ref a] H Q := ⟨a, xs, rfl, .inl h, q⟩
theorem w_lenT (h : SqT K H a xs) (q : Q (.int xs.length) H) : rLen K [.ref a] H Q := ⟨a, xs, rfl, .inr h, q⟩
theorem w_lenLi {p : List Int} (h : H a = some (.lst (ivs p))) (q : Q (.int p.length) H) : rLen K [.ref a] H Q := w_lenL (.of h) (by rw [List.length_map]; exact q)
theorem w_lenTi {p : List Int} (h : SqT K H a (ivs p)) (q : Q (.int p.length) H) : rLen K [.ref a] H Q := w_lenT h (by rw [List.length_map]; exact q)
theorem w_listL (h : SqL K H a xs) (q : ∀ p H', H p = none → Ch [] H H' → H' p = some (.lst xs) → Q (.ref p) H') : rListOf K [.ref a] H Q := ⟨a, xs, rfl, .inl h, w_new q⟩
theorem w_listT (h : SqT K H a xs) (q : ∀ p H', H p = none → Ch [] H H' → H' p = some (.lst xs) → Q (.ref p) H') : rListOf K [.ref a] H Q := ⟨a, xs, rfl, .inr h, w_new q⟩
theorem w_tupleL (h : SqL K H a xs) (q : ∀ p H', H p = none → Ch [] H H' → H' p = some (.tup xs) → Q (.ref p) H') : rTupleOf K [.ref a] H Q := ⟨a, xs, rfl, .inl ⟨h, w_new q⟩⟩
theorem w_tupleT (h : SqT K H a xs) (q : Q (.ref a) H) : rTupleOf K [.ref a] H Q := ⟨a, xs, rfl, .inr ⟨h, q⟩⟩
theorem w_abs (q : Q (.int i.natAbs) H) : rAbs [.int i] H Q := ⟨i, rfl, by
  have e : (if i < 0 then -i else i) = (i.natAbs : Int) := by split <;> omega
  rw [e]
  exact q⟩
theorem w_max2 (q : Q (.int (if j > i then j else i)) H) : rMax2 [.int i, .int j] H Q := ⟨i, j, rfl, q⟩
theorem w_min2 (q : Q (.int (if j < i then j else i)) H) : rMin2 [.int i, .int j] H Q := ⟨i, j, rfl, q⟩
theorem w_int1 (q : Q (.int i) H) : rInt1 [.int i] H Q := .inl ⟨i, rfl, q⟩
theorem w_int1b {b : Bool} (q : Q (.int (if b then 1 else 0)) H) : rInt1 [.bl b] H Q := .inr ⟨b, rfl, q⟩
theorem w_gcd (q : Q (.int (Nat.gcd i.natAbs j.natAbs : Nat)) H) : rGcd [.int i, .int j] H Q := ⟨i, j, rfl, q⟩
/-! slices -/
theorem w_sl {r : V → Option Int → Option Int → Hp → VK → Prop} {te : TE} {tl th : TO} (h : te σ H fun x H1 => tl σ H1 fun l H2 => th σ H2 fun u H3 => r x l u H3 Q) : tSl r te tl th σ H Q := h
theorem w_nopart {R : Option Int → Hp → Prop} (h : R none H) : tNoPart σ H R := h
theorem w_part {t : TE} {R : Option Int → Hp → Prop} (h : t σ H fun x H1 => ∃ i, x = .int i ∧ R (some i) H1) : tPart t σ H R := h
theorem w_slL (h : SqL K H a xs) (q : ∀ p H', H p = none → Ch [] H H' → H' p = some (.lst (cutV xs lo hi)) → Q (.ref p) H') : rSlL K (.ref a) lo hi H Q := ⟨a, xs, rfl, h, w_new q⟩
theorem cutV_whole {xs : List V} {lo hi : Option Int} (h : HT.sIx xs.length 0 lo = 0 ∧ HT.sIx xs.length xs.length hi = xs.length) : cutV xs lo hi = xs := by
  unfold cutV
  rw [h.1, h.2, List.drop_zero, Nat.sub_zero, List.take_length]
theorem w_slT (h : SqT K H a xs) (q : ∀ p H', Ch [] H H' → SqT K H' p (cutV xs lo hi) → Q (.ref p) H') : rSlA K (.ref a) lo hi H Q :=
  ⟨a, xs, rfl, h, fun hw => q a H .refl (by rw [cutV_whole hw]; exact h), fun _ p hp => q p _ (Ch.new hp) (.of upd_same)⟩
/-! targets -/
variable {N : L2.St → Hp → Prop}
theorem w_gname (h : N (σ.set n (some v)) H) : gName n v σ H N := h
theorem w_gsub {to ti : TE} {t : TSet} (h : to σ H fun o H1 => ti σ H1 fun i H2 => t o i v H2 fun H3 => N σ H3) : gSub to ti t v σ H N := h
theorem w_setL {R : Hp → Prop} (h : H a = some (.lst xs)) (hk : i = (k : Int)) (hj : k < xs.length) (q : ∀ H', Ch [a] H H' → H' a = some (.lst (xs.set k v)) → R H') : rSetL (.ref a) (.int i) v H R := by
  subst hk
  refine ⟨a, xs, k, k, rfl, rfl, h, ?_, q _ (Ch.set h) upd_same⟩
  unfold ixN
  rw [if_pos (by omega), if_pos (by omega)]
  rfl
theorem w_gtup {t : TGs} (h : SqT K H a xs) (hl : xs.length = n) (q : t xs σ H N) : gTup K n t (.ref a) σ H N := ⟨a, xs, rfl, h, hl, q⟩
theorem w_gcons {g : TG} {t : TGs} (h : g v σ H fun σ' H' => t xs σ' H' N) : gCons g t (v :: xs) σ H N := ⟨v, xs, rfl, h⟩
theorem w_gnil (h : N σ H) : gNil [] σ H N := ⟨rfl, h⟩
/-! list.append -/
theorem w_bm {T : String} {r : V → List V → Hp → VK → Prop} {to : TE} {t : TA} (h : to σ H fun x H1 => tyV K T x H1 ∧ t σ H1 fun xs H2 => r x xs H2 Q) : tBM K T r to t σ H Q := h
theorem w_append (h : H a = some (.lst xs)) (hl : xs.length < sizeLine) (q : ∀ H', Ch [a] H H' → H' a = some (.lst (xs ++ [v])) → Q .non H') : rAppend (.ref a) [v] H Q := ⟨a, xs, v, rfl, rfl, h, hl, q _ (Ch.set h) upd_same⟩
theorem w_cat {b : Addr} {ys : List V} (h : H a = some (.lst xs)) (h2 : H b = some (.lst ys)) (hl : xs.length + ys.length ≤ sizeLine) (q : ∀ p H', H p = none → Ch [] H H' → H' p = some (.lst (xs ++ ys)) → Q (.ref p) H') : rCat (.ref a) (.ref b) H Q :=
  ⟨a, b, xs, ys, rfl, rfl, h, h2, hl, w_new q⟩
end

/-! ### loops and comprehensions -/
def ForG (J : It) (g : TG) (tb : TS) (N : L2.St → Hp → Prop) (R : VK) (σ : L2.St) (H : Hp) : Prop := ∃ W : Nat → Nat → L2.St → Hp → Prop, (∃ m, W 0 m σ H) ∧ ∀ i m σ H, W i m σ H →
  (J.stop i H ∧ N σ H) ∨ (J.go i H ∧ ∃ M : L2.St → Hp → Prop, (∀ σ' H', M σ' H' → ∃ m', m' < m ∧ W (i + 1) m' σ' H') ∧ ∀ x H', J.yld i H x H' → g x σ H' fun σ2 H2 => tb ⟨M, R, N, M⟩ σ2 H2)
def LcG (J : It) (g : TG) (tt : TT) (te : TE) (vs : List Nat) (σ : L2.St) (H1 : Hp) (Q : VK) : Prop := ∀ D, H1 D = none → ∃ W : Nat → Nat → Hp → Prop, (∃ m, W 0 m (upd H1 D (.lst []))) ∧ ∀ i m H, W i m H →
  (J.stop i H ∧ Q (.ref D) H) ∨ (J.go i H ∧ ∃ Nx : Hp → Prop, (∀ H', Nx H' → ∃ m', m' < m ∧ W (i + 1) m' H') ∧ ∀ x H', J.yld i H x H' → g x (wipe σ vs) H' fun σ2 H2 => wipe σ2 vs = wipe σ vs ∧ tt σ2 H2 fun b H3 =>
    if b = true then te σ2 H3 fun y H4 => ∃ acc, H4 D = some (.lst acc) ∧ acc.length < sizeLine ∧ Nx (upd H4 D (.lst (acc ++ [y]))) else Nx H3)
section
variable {σ : L2.St} {H : Hp} {Q : VK} {K : PySem.W.Frag} {a p : Addr} {xs : List V} {v : V} {i j lo : Int} {n : Nat} {N B C : L2.St → Hp → Prop} {R : VK} {g : TG} {tb : TS} {wi : TI} {tt : TT} {te : TE} {vs : List Nat} {J : It}
theorem w_for (h : wi σ H fun J H1 => ForG J g tb N R σ H1) : tFor wi g tb ⟨N, R, B, C⟩ σ H := h
theorem w_lc (h : wi σ H fun J H1 => LcG J g tt te vs σ H1 Q) : tLc wi g tt te vs σ H Q := h
theorem w_while {c : TT} (W : Nat → L2.St → Hp → Prop) (m : Nat) (w0 : W m σ H) (turn : ∀ m σ H, W m σ H → c σ H fun b' H1 => if b' = true then ∃ M : L2.St → Hp → Prop, (∀ σ' H', M σ' H' → ∃ m', m' < m ∧ W m' σ' H') ∧ tb ⟨M, R, N, M⟩ σ H1 else N σ H1) : tWhile c tb ⟨N, R, B, C⟩ σ H :=
  ⟨W, ⟨m, w0⟩, turn⟩
theorem w_iL {tl : TE} {S : It → Hp → Prop} (h : tl σ H fun x H1 => ∃ a, x = .ref a ∧ (∃ xs, SqL K H1 a xs) ∧ S (Itl K a) H1) : iList K tl σ H S := h
theorem w_iT {tl : TE} {S : It → Hp → Prop} (h : tl σ H fun x H1 => ∃ a, x = .ref a ∧ (∃ xs, SqT K H1 a xs) ∧ S (Itt K a) H1) : iTup K tl σ H S := h
theorem w_iLr {S : Addr → Prop} (h : SqL K H a xs) (q : S a) : ∃ a', V.ref a = .ref a' ∧ (∃ xs, SqL K H a' xs) ∧ S a' := ⟨a, rfl, ⟨xs, h⟩, q⟩
theorem w_iTr {S : Addr → Prop} (h : SqT K H a xs) (q : S a) : ∃ a', V.ref a = .ref a' ∧ (∃ xs, SqT K H a' xs) ∧ S a' := ⟨a, rfl, ⟨xs, h⟩, q⟩
theorem w_iR1 {tr : TA} {S : It → Hp → Prop} (h : tr σ H fun vs H1 => ∃ j : Int, vs = [.int j] ∧ -(2 ^ 62) ≤ j ∧ j < 2 ^ 62 ∧ S (Itr 0 j.toNat) H1) : iRng1 tr σ H S := h
theorem w_iR1r {S : Int → Prop} (h1 : -(2 ^ 62) ≤ j) (h2 : j < 2 ^ 62) (q : S j) : ∃ j' : Int, [V.int j] = [.int j'] ∧ -(2 ^ 62) ≤ j' ∧ j' < 2 ^ 62 ∧ S j' := ⟨j, rfl, h1, h2, q⟩
theorem w_iR2 {tr : TA} {S : It → Hp → Prop} (h : tr σ H fun vs H1 => ∃ i j : Int, vs = [.int i, .int j] ∧ (-(2 ^ 62) ≤ i ∧ i < 2 ^ 62 ∧ -(2 ^ 62) ≤ j ∧ j < 2 ^ 62) ∧ S (Itr i (j - i).toNat) H1) : iRng2 tr σ H S := h
theorem w_iR2r {S : Int → Int → Prop} (h : -(2 ^ 62) ≤ i ∧ i < 2 ^ 62 ∧ -(2 ^ 62) ≤ j ∧ j < 2 ^ 62) (q : S i j) : ∃ i' j' : Int, [V.int i, V.int j] = [.int i', .int j'] ∧ (-(2 ^ 62) ≤ i' ∧ i' < 2 ^ 62 ∧ -(2 ^ 62) ≤ j' ∧ j' < 2 ^ 62) ∧ S i' j' := ⟨i, j, rfl, h, q⟩
theorem w_iE {tr : TA} {S : It → Hp → Prop} (h : tr σ H fun vs H1 => ∃ a xs, vs = [.ref a] ∧ SqT K H1 a xs ∧ S (IteT K a xs.length) H1) : iEnumT K tr σ H S := h
theorem w_iEr {S : Addr → List V → Prop} (h : SqT K H a xs) (q : S a xs) : ∃ a' xs', [V.ref a] = [.ref a'] ∧ SqT K H a' xs' ∧ S a' xs' := ⟨a, xs, rfl, h, q⟩
theorem w_iV {S : It → Hp → Prop} {tl : TE} (h : tl σ H fun v H1 => ∃ (a : Addr) (xs : List V), v = .ref a ∧ ((SqL K H1 a xs ∧ S (Itv K a xs.length) H1) ∨ (SqT K H1 a xs ∧ S (RT.ItvT K a xs.length) H1))) : RT.iRevA K tl σ H S := h
theorem w_iVr {S1 S2 : Addr → List V → Prop} (h : SqT K H a xs) (q : S2 a xs) : ∃ (a' : Addr) (xs' : List V), V.ref a = .ref a' ∧ ((SqL K H a' xs' ∧ S1 a' xs') ∨ (SqT K H a' xs' ∧ S2 a' xs')) := ⟨a, xs, rfl, .inr ⟨h, q⟩⟩
/-- a for, by what it walks -/
theorem for_w {G : Hp → Prop} {Y : Nat → Hp → V → Hp → Prop} (w : Walk J n G Y) (Pv : Nat → L2.St → Hp → Prop) (h0 : Pv 0 σ H) (hG : ∀ i σ H, i ≤ n → Pv i σ H → G H)
    (hs : ∀ i x σ H H', i < n → Pv i σ H → Y i H x H' → g x σ H' fun σ2 H2 => tb ⟨Pv (i + 1), R, N, Pv (i + 1)⟩ σ2 H2) (hd : ∀ σ H, Pv n σ H → N σ H) : ForG J g tb N R σ H :=
  for_it (D := ⟨N, R, fun _ _ => False, fun _ _ => False⟩) w Pv h0 hG hs hd
theorem for_R (Pv : Nat → L2.St → Hp → Prop) (h0 : Pv 0 σ H) (hs : ∀ i σ H, i < n → Pv i σ H → g (.int (lo + (i : Int))) σ H fun σ2 H2 => tb ⟨Pv (i + 1), R, N, Pv (i + 1)⟩ σ2 H2) (hd : ∀ σ H, Pv n σ H → N σ H) : ForG (Itr lo n) g tb N R σ H :=
  for_range (D := ⟨N, R, fun _ _ => False, fun _ _ => False⟩) Pv h0 hs hd
theorem for_T {xs : List V} (Pv : Nat → L2.St → Hp → Prop) (h0 : Pv 0 σ H) (hl : ∀ i σ H, i ≤ xs.length → Pv i σ H → SqT K H a xs)
    (hs : ∀ i x σ H, xs[i]? = some x → Pv i σ H → g x σ H fun σ2 H2 => tb ⟨Pv (i + 1), R, N, Pv (i + 1)⟩ σ2 H2) (hd : ∀ σ H, Pv xs.length σ H → N σ H) : ForG (Itt K a) g tb N R σ H :=
  for_tup (D := ⟨N, R, fun _ _ => False, fun _ _ => False⟩) Pv h0 hl hs hd
/-- over a tuple of ints -/
theorem for_Ti {ns : List Int} (Pv : Nat → L2.St → Hp → Prop) (h0 : Pv 0 σ H) (hl : ∀ i σ H, i ≤ ns.length → Pv i σ H → SqT K H a (ivs ns))
    (hs : ∀ i x σ H, ns[i]? = some x → Pv i σ H → g (.int x) σ H fun σ2 H2 => tb ⟨Pv (i + 1), R, N, Pv (i + 1)⟩ σ2 H2) (hd : ∀ σ H, Pv ns.length σ H → N σ H) : ForG (Itt K a) g tb N R σ H :=
  for_T (xs := ivs ns) Pv h0 (fun i σ H hi => hl i σ H (by rw [List.length_map] at hi; exact hi)) (fun i x σ H hx hp => by
    obtain ⟨z, hz, rfl⟩ := ivs_get_inv hx
    exact hs i z σ H hz hp) (fun σ H hp => hd σ H (by rw [List.length_map] at hp; exact hp))
/-- for i, x in enumerate(tuple of ints): each turn lays a new pair -/
theorem for_Ei {ns : List Int} (Pv : Nat → L2.St → Hp → Prop) (h0 : Pv 0 σ H) (hl : ∀ i σ H, i ≤ ns.length → Pv i σ H → SqT K H a (ivs ns))
    (hs : ∀ i x σ H T H', ns[i]? = some x → Pv i σ H → H T = none → Ch [] H H' → H' T = some (.tup [.int (i : Nat), .int x]) → g (.ref T) σ H' fun σ2 H2 => tb ⟨Pv (i + 1), R, N, Pv (i + 1)⟩ σ2 H2) (hd : ∀ σ H, Pv ns.length σ H → N σ H) : ForG (IteT K a (ivs ns).length) g tb N R σ H :=
  for_it (D := ⟨N, R, fun _ _ => False, fun _ _ => False⟩) (walk_enumT (xs := ivs ns)) Pv h0 (fun i σ H hi => hl i σ H (by rw [List.length_map] at hi; exact hi)) (fun i x σ H H' hi hp hy => by
    obtain ⟨T, x1, x2, rfl, nT, rfl, e1, e2⟩ := hy
    obtain ⟨z, hz, rfl⟩ := ivs_get_inv e2
    cases e1
    exact hs i z σ H T _ hz hp nT (Ch.new nT) upd_same) (fun σ H hp => hd σ H (by rw [List.length_map] at hp; exact hp))
/-- for x in reversed(tuple of ints) -/
theorem for_Vi {ns : List Int} (Pv : Nat → L2.St → Hp → Prop) (h0 : Pv 0 σ H) (hl : ∀ i σ H, Pv i σ H → SqT K H a (ivs ns))
    (hs : ∀ i x σ H, i < ns.length → ns[ns.length - 1 - i]? = some x → Pv i σ H → g (.int x) σ H fun σ2 H2 => tb ⟨Pv (i + 1), R, N, Pv (i + 1)⟩ σ2 H2) (hd : ∀ σ H, Pv ns.length σ H → N σ H) : ForG (RT.ItvT K a (ivs ns).length) g tb N R σ H :=
  RT.for_ItvT (D := ⟨N, R, fun _ _ => False, fun _ _ => False⟩) (xs := ivs ns) Pv h0 hl (fun i x σ H hi hx hp => by
    rw [List.length_map] at hi hx
    obtain ⟨z, hz, rfl⟩ := ivs_get_inv hx
    exact hs i z σ H hi hz hp) (fun σ H hp => hd σ H (by rw [List.length_map] at hp; exact hp))

theorem wipe1 {σ : L2.St} {i : Nat} {o : Option V} : wipe ((wipe σ [i]).set i o) [i] = wipe σ [i] := by
  show ((σ.set i none).set i o).set i none = σ.set i none
  rw [List.set_set, List.set_set]
/-- [e for x in ..], no test: what each turn gives -/
theorem lc_w {G : Hp → Prop} {Y : Nat → Hp → V → Hp → Prop} {i : Nat} (w : Walk J n G Y) (f : Nat → V) (hv : vs = [i]) (hG : ∀ H', Ch [] H H' → G H') (hn : n < 100000)
    (hs : ∀ k x H1 H2, k < n → Ch [] H H1 → Y k H1 x H2 → ∀ S : VK, (∀ H3, Ch [] H1 H3 → S (f k) H3) → te ((wipe σ [i]).set i (some x)) H2 S)
    (hd : ∀ D H', H D = none → Ch [] H H' → H' D = some (.lst ((List.range n).map f)) → Q (.ref D) H') : LcG J (gName i) tYes te vs σ H Q := by
  subst hv
  intro D hD
  refine lc_it w (fun k H' => Ch [] H H' ∧ H' D = some (.lst ((List.range k).map f))) ⟨Ch.new hD, by rw [upd_same]; rfl⟩ (fun k H' hk hp => hG H' hp.1) ?_ (fun H' hp => hd D H' hD hp.1 hp.2)
  rintro k x H1 H2 hk ⟨c1, e1⟩ hy
  refine ⟨wipe1, ?_⟩
  show te _ _ _
  refine hs k x H1 H2 hk c1 hy _ fun H3 c3 => ?_
  refine ⟨_, c3.at0 e1, sz_lt (by rw [List.length_map, List.length_range]; omega), ?_, ?_⟩
  · exact Ch.cut (c1.trans c3) hD (Ch.set (c3.at0 e1))
  · rw [upd_same, List.range_succ, List.map_append]
    rfl
theorem lc_R {i : Nat} (f : Nat → V) (hv : vs = [i]) (hn : n < 100000)
    (hs : ∀ k H1, k < n → Ch [] H H1 → ∀ S : VK, (∀ H3, Ch [] H1 H3 → S (f k) H3) → te ((wipe σ [i]).set i (some (.int (lo + (k : Int))))) H1 S)
    (hd : ∀ D H', H D = none → Ch [] H H' → H' D = some (.lst ((List.range n).map f)) → Q (.ref D) H') : LcG (Itr lo n) (gName i) tYes te vs σ H Q :=
  lc_w (walk_range (lo := lo) (n := n)) f hv (fun _ _ => trivial) hn (fun k x H1 H2 hk c y S q => by
    obtain ⟨e1, e2⟩ := y
    rw [e1, e2]
    exact hs k H1 hk c S q) hd
theorem range_map {ns : List Int} {g : Int → V} : (List.range ns.length).map (fun k => g (ns.getD k 0)) = ns.map g := by
  apply List.ext_getElem?
  intro k
  rw [List.getElem?_map, List.getElem?_map]
  by_cases h : k < ns.length
  · rw [List.getElem?_range h, List.getElem?_eq_getElem h]
    simp [List.getD, h]
  · rw [List.getElem?_eq_none (by rw [List.length_range]; omega), List.getElem?_eq_none (by omega)]
    rfl
/-- [e for x in a tuple of ints] -/
theorem lc_Ti {i : Nat} {ns : List Int} (f : Int → V) (hv : vs = [i]) (ht : SqT K H a (ivs ns)) (hn : ns.length < 100000)
    (hs : ∀ x H1, x ∈ ns → Ch [] H H1 → ∀ S : VK, (∀ H3, Ch [] H1 H3 → S (f x) H3) → te ((wipe σ [i]).set i (some (.int x))) H1 S)
    (hd : ∀ D H', H D = none → Ch [] H H' → H' D = some (.lst (ns.map f)) → Q (.ref D) H') : LcG (Itt K a) (gName i) tYes te vs σ H Q := by
  have w : Walk (Itt K a) ns.length (fun H => SqT K H a (ivs ns)) (YAt (ivs ns)) := by
    have q := walk_tup (K := K) (a := a) (xs := ivs ns)
    rw [List.length_map] at q
    exact q
  refine lc_w w (fun k => f (ns.getD k 0)) hv (fun _ c => c.sqT ht) hn (fun k x H1 H2 hk c y S q => ?_) (fun D H' h1 h2 h3 => hd D H' h1 h2 (by rw [h3, range_map]))
  obtain ⟨rfl, hx⟩ := y
  obtain ⟨z, hz, rfl⟩ := ivs_get_inv hx
  refine hs z _ (List.mem_of_getElem? hz) c S fun H3 c3 => ?_
  have e : ns.getD k 0 = z := by
    simp [List.getD, hz]
  have := q H3 c3
  simp only [e] at this
  exact this
end

section
variable {σ : L2.St} {H : Hp} {i j lo c : Int} {n : Nat} {N : L2.St → Hp → Prop} {R : VK} {g : TG} {tb : TS}
theorem w_iR3 {tr : TA} {S : It → Hp → Prop} (h : tr σ H fun vs H1 => ∃ (i j c : Int) (n : Nat), vs = [.int i, .int j, .int c] ∧ RgC i j c n ∧ S (Itc i c n) H1) : iRng3 tr σ H S := h
theorem w_iR3r {S : Int → Int → Nat → Prop} (h : RgC i j c n) (q : S i c n) : ∃ (i' j' c' : Int) (n' : Nat), [V.int i, V.int j, V.int c] = [.int i', .int j', .int c'] ∧ RgC i' j' c' n' ∧ S i' c' n' := ⟨i, j, c, n, rfl, h, q⟩
theorem for_C (Pv : Nat → L2.St → Hp → Prop) (h0 : Pv 0 σ H) (hs : ∀ i σ H, i < n → Pv i σ H → g (.int (lo + (i : Nat) * c)) σ H fun σ2 H2 => tb ⟨Pv (i + 1), R, N, Pv (i + 1)⟩ σ2 H2) (hd : ∀ σ H, Pv n σ H → N σ H) : ForG (Itc lo c n) g tb N R σ H :=
  for_rangeC (D := ⟨N, R, fun _ _ => False, fun _ _ => False⟩) Pv h0 hs hd
end
section
variable {X : Cx} {C : Addr} {bmB : List Value} {B newId initId : String}
/-- X(), an own exception class without own __init__ -/
theorem pmk_own0 {x : Str} {p pos : Pos} (F : ExcBaseFacts B newId initId bmB) (q : PySem.W.excIn X.K C bmB newId = true) (gC : X.mg x = some (.ref C)) (kC : PySem.W.keepIn X.K (.ref C) = true) (r : Raises X (.ref C)) (hg : Gl X x)
    (hdb : (x == ("__debug__" : Str)) = false := by decide) : PMk X (.Call (.Name x p) [] [] pos) (fun _ H Q => Q (.ref C) none H) := by
  intro pins s σ H Q I h
  refine wpAny_Call_Name_kw (ld_glob I hg gC ?_ hdb)
  refine PySem.W.callWith_K0 I.kIn kC ?_
  show wpAny _ _ (call (.ref C) []) _ _ _
  obtain ⟨bm, N, nm, qn, bs, hdct, sn, sub, ab, col, dd, k0, k1, k2, k3, k5, mN, hC, hN, hni, T⟩ := exc_obj I.kIn q
  refine wpAny_call_exc_subT F T hC hN hni (fun h' e hm => ?_) (Nat.zero_le _)
  exact mk_of I hm r h (I.hok.gone hm.new)
end
/-- a def with one default, called with all its arguments -/
structure DefD (K : PySem.W.Frag) (mg : Str → Option Value) (x : Str) (st : Stmt) (ps : List Str) (f : Addr) (fd : FuncData) : Prop where
  fn : ∃ dvs kws, FunD K x x (defArgs st) (defBody st) (defScope st) dvs kws f fd
  mgf : mg x = some (.ref f)
  bi : Binds K fd ps []
section
variable {P : Program} {w : World} {K : PySem.W.Frag} {mg : Str → Option Value} {base : Heap}
theorem cal_ofD {x : Str} {st : Stmt} {f : Addr} {fd : FuncData} {N ps : List Str} {k : Nat} {sp : Sp} (F : DefD K mg x st ps f fd) (S : FnScope N ps (defScope st)) (len : ∀ vs H Q E, sp vs H Q E → vs.length = ps.length)
    (hbody : ∀ (cdv : Value) (A : Around) (outer : List Env) (s : Shared) (H : Hp) (vs : List V) (Q : VK) (E : XK), Room k (A.deeper (envOfC x (defScope st) s.heap.objs.size f cdv)) → sp vs H Q E →
      ∃ t, PSs (cxOf (L2.CX P w) P w K mg base N x (defScope st) f cdv A outer s H E).nox (defBody st) t ∧ t { nx := fun _ H' => Q .non H', rt := Q } (start N vs) H) : Cal P w K mg base (k + 1) x sp := by
  obtain ⟨dvs, kws, F0⟩ := F.fn
  exact ⟨f, fd, ps, F0.ok S len fun cdv A outer s H vs Q E hr h => let ⟨t, h1, h2⟩ := hbody cdv A outer s H vs Q E hr h; ⟨t, h1.nox, h2⟩, F.mgf, F0.kp, F.bi⟩
end

/-- an own exception class over ValueError, without own __init__ -/
structure ExcF (K : PySem.W.Frag) (mg : Str → Option Value) (x : Str) (C : Addr) : Prop where
  xin : PySem.W.excIn K C [.type "ValueError", .type "Exception", .type "BaseException", .type "object"] "ValueError.__new__" = true
  gl : mg x = some (.ref C)
  kp : PySem.W.keepIn K (.ref C) = true
  sub : PySem.W.subIn K (.ref C) (.type "BaseException") = some true
  ty : PySem.W.typeIn K (.ref C) = some (.type "type")

/-! ### truth of a list -/
def tTru (K : PySem.W.Frag) (ta : TE) : TT := fun σ H Q => ta σ H fun x H' => ∃ k, TruV K x H' k ∧ Q k H'
section
variable {X : Cx} {K : PySem.W.Frag}
theorem k_tru {a : Expr} {ta : TE} (h : X.K = K) (ha : PE X a ta) (he : ∀ whole, isTrue a X.env whole = (do let v ← whole; standAt a.pos; holding [v] (truthy v)) := by intro _; rfl) : PT X a (tTru K ta) := h ▸ pt_truth ha he
variable {σ : L2.St} {H : Hp} {ta : TE} {a : Addr} {xs : List V}
theorem w_tru {R : Bool → Hp → Prop} (h : ta σ H fun x H' => ∃ k, TruV K x H' k ∧ R k H') : tTru K ta σ H R := h
theorem w_truL {R : Bool → Prop} (h : SqL K H a xs) (q : R (!xs.isEmpty)) : ∃ k, TruV K (.ref a) H k ∧ R k := ⟨_, .inl ⟨xs, h, rfl⟩, q⟩
theorem w_truT {R : Bool → Prop} (h : SqT K H a xs) (q : R (!xs.isEmpty)) : ∃ k, TruV K (.ref a) H k ∧ R k := ⟨_, .inr (.inl ⟨xs, h, rfl⟩), q⟩
end

theorem w_bits {σ : L2.St} {H : Hp} {to : TE} {Q : VK} (h : to σ H fun x H1 => ∃ i, x = .int i ∧ Q (.int (Builtin.Int.intBits i : Nat)) H1) : tBits to σ H Q := h
end My
/-! what the end needs of the written part: defs, defaults, classes -/
namespace My
open PySem PySem.Spec PyProof.Rows L2
section
variable {K : PySem.W.Frag} {h : Heap} {mg : Str → Option Value}
theorem def_mk {x : Str} {st : Stmt} {ps : List Str} {f : Addr} {oc : Value} {od an : Option Addr} {osl : Array (Option Value)} {kV doc pm cdv ct : Value} (X : K.In h) (G : h.Ns mainGlobals mg)
    (a : PySem.W.nsIn K mainGlobals x = some (some (.ref f))) (l : K.lookup f = some ⟨oc, od, .func (PySem.W.fnOf x x (defArgs st) (defBody st) (defScope st) .none kV doc pm an cdv ct), osl⟩)
    (c : PySem.W.codeIn K cdv x = true) (k : PySem.W.keepIn K (.ref f) = true)
    (b : ∀ (kV doc pm : Value) (an : Option Addr) (cdv ct : Value) (us : List Value), us.length = ps.length → bindArgs (PySem.W.fnOf x x (defArgs st) (defBody st) (defScope st) .none kV doc pm an cdv ct) ⟨us, []⟩ = pure (ps.zip us)) :
    DefF K mg x st ps f (PySem.W.fnOf x x (defArgs st) (defBody st) (defScope st) .none kV doc pm an cdv ct) :=
  ⟨fun_mk l c k, PySem.W.mg_of X G a, (fun_mk (st := st) l c k).binds b⟩
theorem defd_mk {x : Str} {st : Stmt} {ps : List Str} {dvs : List V} {f T : Addr} {oc : Value} {od an td : Option Addr} {osl tsl : Array (Option Value)} {kV doc pm cdv ct tc : Value} {its : List Value} {n : Nat} (X : K.In h) (G : h.Ns mainGlobals mg)
    (a : PySem.W.nsIn K mainGlobals x = some (some (.ref f))) (l : K.lookup f = some ⟨oc, od, .func (PySem.W.fnOf x x (defArgs st) (defBody st) (defScope st) (.ref T) kV doc pm an cdv ct), osl⟩)
    (c : PySem.W.codeIn K cdv x = true) (k : PySem.W.keepIn K (.ref f) = true) (t : K.lookup T = some ⟨tc, td, .seq its.toArray n, tsl⟩) (d : Vals dvs its) (d0 : dvs ≠ [])
    (b : ∀ (T : Addr) (kV doc pm : Value) (an : Option Addr) (cdv ct : Value) (us its : List Value), us.length = ps.length → its.length = dvs.length →
      ∃ k, bindArgs (PySem.W.fnOf x x (defArgs st) (defBody st) (defScope st) (.ref T) kV doc pm an cdv ct) ⟨us, []⟩ = seqItems? (.ref T) >>= k ∧ k (some its.toArray) = pure (ps.zip (us ++ its.drop dvs.length))) :
    DefD K mg x st ps f (PySem.W.fnOf x x (defArgs st) (defBody st) (defScope st) (.ref T) kV doc pm an cdv ct) := by
  have F : FunD K x x (defArgs st) (defBody st) (defScope st) dvs [] f (PySem.W.fnOf x x (defArgs st) (defBody st) (defScope st) (.ref T) kV doc pm an cdv ct) :=
    ⟨⟨_, _, _, _, _, _, _, _, _, _, rfl, l, c, .inr ⟨d0, T, _, its, n, rfl, t, rfl, d⟩, .inl rfl⟩, k⟩
  refine ⟨⟨_, _, F⟩, PySem.W.mg_of X G a, ?_⟩
  obtain ⟨ds, v, B⟩ := F.binds1 ps.length dvs.length d0 (by rw [Nat.sub_self]; rfl) b
  rw [List.drop_length] at v
  cases v
  exact B
theorem exc_mk {x : Str} {C : Addr} (X : K.In h) (G : h.Ns mainGlobals mg) (a : PySem.W.nsIn K mainGlobals x = some (some (.ref C))) (i : PySem.W.excIn K C [.type "ValueError", .type "Exception", .type "BaseException", .type "object"] "ValueError.__new__" = true)
    (k : PySem.W.keepIn K (.ref C) = true) (s : PySem.W.subIn K (.ref C) (.type "BaseException") = some true) (t : PySem.W.typeIn K (.ref C) = some (.type "type")) : ExcF K mg x C := ⟨i, PySem.W.mg_of X G a, k, s, t⟩
end
end My
namespace My
open PySem PySem.Spec PyProof.Rows L2
theorem cx_no {P : Program} {w : World} {st : List Env} {H : Hp} {s s' : Shared} {e : Value} (h : L2.CX P w st H s (fun _ _ _ => False) e s') : False := by
  obtain ⟨_, _, _, _, _, _, _, _, _, _, _, _, z⟩ := h
  exact z
end My
/-! own exceptions with fields; defs called in an except suite; powers of any base -/
namespace My
open PySem PySem.Spec PyProof.Rows L2
/-! ### ** -/
def CPowG (i j : Int) : Prop := 0 ≤ j ∧ (Builtin.Int.intBits i : Int) * j ≤ 2 ^ 27
section
variable {X : Cx}
theorem op_powG : OpR X (binaryOp .Pow) (rI CPowG fun i j => .int (i ^ j.toNat)) := opI fun _ _ _ _ _ _ _ hc q => pow_int hc.1 hc.2 q
end
/-! ### a raise of an own class with its own __init__, no exception in the air -/
section
variable {X : Cx}
theorem pmk_oexN {CXa : CXT} {nm0 : Str} {e : Expr} {es : List Expr} {ta : TA} {p pos : Pos} {C fI : Addr} {k : Nat} {fd : FuncData} {ps : List Str} {sp : Sp} (T : OexC X.K C) (iC : PySem.W.findIn X.K (.ref C) "__init__" = some (some (.ref fI)))
    (tI : PySem.W.typeIn X.K (.ref fI) = some (.type "function")) (F1 : FnOk X.prog X.w X.K X.mg X.base CXa k fI fd ps sp) (hr : Room (k + 1) X.A) (hb : Binds X.K fd ps []) (hx : Passes CXa X (fun _ _ _ => False)) (hg : Gl X nm0) (hm : X.mg nm0 = some (.ref C)) (ha : PA X (e :: es) ta)
    (hdb : (nm0 == ("__debug__" : Str)) = false := by decide) (hst : starEach (e :: es) X.env = (false, eval e X.env) :: starEach es X.env := by rfl) (hpl : (backTo pos (starEach es X.env)).any (·.1) = false := by rfl) :
    L2N.PMk X (.Call (.Name nm0 p) (e :: es) [] pos) (tMkO C sp [] ta) := by
  intro pins s0 σ H0 Q0 J0 hyp
  obtain ⟨nm, q, N, bs, bm, sn, sub, ab, col, dd, k0, k1, k2, k3, k5, hC, hbm⟩ := T.cls
  refine wpAny_Call_Name_kw (ld_glob J0 hg hm ?_ hdb)
  refine PySem.W.callWith_K (h₀ := X.base) J0.ok.mod.kin T.kC (thn (ha.run pos pins s0 σ H0 _ J0 hyp) fun us s1 ⟨vs, Ha, Ja, r1, hz, qa⟩ => ⟨Ja.kIn, ?_⟩) hst hpl
  show wpAny _ _ (call (.ref C) us) _ _ _
  obtain ⟨h0, gn, dw, tk, os⟩ := s1
  let h1 : Heap := (h0.push (PySem.W.kdv_tup us)).push (PySem.HandSPX.excO C h0.objs.size)
  let ad : Addr := h0.objs.size + 1
  have fresh : Ha ad = none := Ja.hok.fresh (Nat.le_succ _)
  have qb := qa ad fresh
  rw [List.append_nil] at qb
  have keep : ∀ b o, h0.get? b = some o → h1.get? b = some o := fun b o z => Heap.get?_push_of_some _ (Heap.get?_push_of_some _ z)
  have there : h1.get? ad = some (PySem.HandSPX.excO C h0.objs.size) := by
    show Heap.get? ((h0.push (PySem.W.kdv_tup us)).push (PySem.HandSPX.excO C h0.objs.size)) (h0.objs.size + 1) = _
    heap_get
  have Jb : Inv X pins σ (upd Ha ad (exo ad C none)) ⟨h1, gn, dw, tk, os⟩ := Ja.laid (t' := tk) (a := ad) (o := exo ad C none) (h' := h1) keep (Nat.le_succ _) (exo_ok there)
  have r2 : Vals (V.ref ad :: vs) (Value.ref ad :: us) := .cons rfl r1
  have len1 : (Value.ref ad :: us ++ []).length = ps.length := by
    rw [List.append_nil]
    have z := r2.length
    rw [F1.len _ _ _ _ qb] at z
    exact z.symm
  have few : us.length ≤ sizeLine := by
    rw [sizeLine_eq, ← Paired.length r1]
    omega
  have bind := hb _ (Value.ref ad :: us) Jb.kIn len1
  rw [List.append_nil] at bind
  have made := F1.run _ X.stack _ _ ⟨Value.ref ad :: us, []⟩ (Value.ref ad :: us) _ _ (fun _ _ _ => False) (hr.make C us []) (Jb.env0.make C us []) bind r2 qb
  refine wpAny_call (PySem.HandSPX.call_own F.excBase_ValueError (fun Y => PySem.HandSPX.refsVE_contains Y bm hbm) (Ja.kIn _ _ hC) (PySem.W.looks_findIn Ja.kIn iC) (fun self => PySem.W.bind_fn Ja.kIn self tI) few (codeAny_mono made fun r s' out => ?_))
  cases r with
  | error er => exact hx pins σ _ _ er s' Jb out
  | ok fl =>
    cases fl with
    | next => exact False.elim out
    | brk => exact False.elim out
    | cont => exact False.elim out
    | ret u =>
      obtain ⟨v, Hb, osb, bareb, unb, hokb, rv, ev, d, fs, ea, ed, hd1, qc⟩ := out
      subst ev
      obtain ⟨h2, g2, d2, t2, os'⟩ := s'
      obtain ⟨t0, G, J, kG, ge, hoe, na⟩ := mk_end0 (d2 := d2) (t2 := t2) Ja (Nat.le_succ _) keep unb hokb osb bareb ea ed hd1
      exact ⟨rv, ad, _, _, ⟨G, g2, d2, t2, os'⟩, _, .ref C, some d, rfl, J, kG, ge, hoe, ⟨rfl, rfl, fun vs z => by cases z; rfl⟩, rfl, rfl, na, rfl, bareb, raises_own T.exC T.tyC, qc⟩
end
/-! ### defs that may raise an exception whose context is None -/
theorem passLN {X : Cx} : Passes (L2N.CX X.prog X.w) X E0 := fun _ _ _ _ _ _ _ h => by
  obtain ⟨_, _, _, _, _, _, _, _, _, _, _, _, z⟩ := h
  exact z.elim
theorem takesN0 {X : Cx} : L2N.Takes X (fun _ _ _ _ => False) := fun _ _ x => by
  obtain ⟨_, _, _, _, _, _, _, _, _, _, _, _, _, _, _, _, z⟩ := x
  exact z.elim
structure CalN (P : Program) (w : World) (K : PySem.W.Frag) (mg : Str → Option Value) (base : Heap) (k : Nat) (x : Str) (sp : Sp) : Prop where
  ex : ∃ (f : Addr) (fd : FuncData) (ps : List Str), FnOk P w K mg base (L2N.CX P w) k f fd ps sp ∧ mg x = some (.ref f) ∧ PySem.W.keepIn K (.ref f) = true ∧ Binds K fd ps []
structure CalH (P : Program) (w : World) (K : PySem.W.Frag) (mg : Str → Option Value) (base : Heap) (k : Nat) (x : Str) (sp : Sp) : Prop where
  ex : ∃ (f : Addr) (fd : FuncData) (ps : List Str), L2H.FnH P w K mg base (L2.CX P w) k f fd ps sp ∧ mg x = some (.ref f) ∧ PySem.W.keepIn K (.ref f) = true ∧ Binds K fd ps []
section
variable {P : Program} {w : World} {K : PySem.W.Frag} {mg : Str → Option Value} {base : Heap}
theorem fun_okN {x qual : Str} {st : Stmt} {f : Addr} {fd : FuncData} {N ps : List Str} {k : Nat} {sp : Sp} (F : Fun K x qual st f fd) (S : FnScope N ps (defScope st)) (len : ∀ vs H Q E, sp vs H Q E → vs.length = ps.length)
    (hbody : ∀ (cdv : Value) (A : Around) (outer : List Env) (s : Shared) (H : Hp) (vs : List V) (Q : VK) (E : XK), Room k (A.deeper (envOfC qual (defScope st) s.heap.objs.size f cdv)) → sp vs H Q E →
      ∃ t, PSs (cxOf (L2N.CX P w) P w K mg base N qual (defScope st) f cdv A outer s H E) (defBody st) t ∧ t { nx := fun _ H' => Q .non H', rt := Q } (start N vs) H) : FnOk P w K mg base (L2N.CX P w) (k + 1) f fd ps sp := by
  obtain ⟨oc, od, kV, doc, pm, an, cdv, ct, osl, rfl, lk, hcd⟩ := F.ex
  exact fn_of lk hcd S len fun A outer s H vs Q E hr h => hbody cdv A outer s H vs Q E hr h
theorem cal_ofN {x : Str} {st : Stmt} {f : Addr} {fd : FuncData} {N ps : List Str} {k : Nat} {sp : Sp} (F : DefF K mg x st ps f fd) (S : FnScope N ps (defScope st)) (len : ∀ vs H Q E, sp vs H Q E → vs.length = ps.length)
    (hbody : ∀ (cdv : Value) (A : Around) (outer : List Env) (s : Shared) (H : Hp) (vs : List V) (Q : VK) (E : XK), Room k (A.deeper (envOfC x (defScope st) s.heap.objs.size f cdv)) → sp vs H Q E →
      ∃ t, PSs (cxOf (L2N.CX P w) P w K mg base N x (defScope st) f cdv A outer s H E) (defBody st) t ∧ t { nx := fun _ H' => Q .non H', rt := Q } (start N vs) H) : CalN P w K mg base (k + 1) x sp :=
  ⟨f, fd, ps, fun_okN F.fn S len hbody, F.mgf, F.fn.kp, F.bi⟩
theorem cal_ofH {x : Str} {st : Stmt} {f : Addr} {fd : FuncData} {N ps : List Str} {k : Nat} {sp : Sp} (F : DefF K mg x st ps f fd) (S : FnScope N ps (defScope st)) (len : ∀ vs H Q E, sp vs H Q E → vs.length = ps.length)
    (hbody : ∀ (cdv : Value) (A : Around) (outer : List Env) (s : Shared) (H : Hp) (vs : List V) (Q : VK) (E : XK) (p : Addr × Obj), L2H.Hot1 A p → L2H.RoomH k (A.deeper (envOfC x (defScope st) s.heap.objs.size f cdv)) → sp vs H Q E →
      ∃ t, PSs (L2H.cxH (L2.CX P w) P w K mg base N x (defScope st) f cdv A outer s H E p).nox (defBody st) t ∧ t { nx := fun _ H' => Q .non H', rt := Q } (start N vs) H) : CalH P w K mg base (k + 1) x sp := by
  obtain ⟨oc, od, kV, doc, pm, an, cdv, ct, osl, rfl, lk, hcd⟩ := F.fn.ex
  exact ⟨f, _, ps, L2H.fn_ofH lk hcd S len fun A outer s H vs Q E p hot hr h => let ⟨t, h1, h2⟩ := hbody cdv A outer s H vs Q E p hot hr h; ⟨t, h1.nox, h2⟩, F.mgf, F.fn.kp, F.bi⟩
end
section
variable {X : Cx} {k j : Nat} {x : Str} {sp : Sp} {p pos : Pos} {e : Expr} {es : List Expr} {t : TA}
theorem pe_ccN (c : CalN X.prog X.w X.K X.mg X.base k x sp) (hr : Room j X.A) (hk : k ≤ j) (hg : Gl X x) (ha : PA X (e :: es) t)
    (hdb : (x == ("__debug__" : Str)) = false := by decide) (hst : starEach (e :: es) X.env = (false, eval e X.env) :: starEach es X.env := by rfl) (hpl : (backTo pos (starEach es X.env)).any (·.1) = false := by rfl) :
    PE X (.Call (.Name x p) (e :: es) [] pos) (tCall sp [] E0 t) := by
  obtain ⟨f, fd, ps, F, hm, kp, b⟩ := c.ex
  exact pe_call F (hr.mono hk) hg hm kp b .nil passLN ha hdb hst hpl
theorem pe_ccSN {W : WX} (c : CalN X.prog X.w X.K X.mg X.base k x sp) (hr : Room j X.A) (hk : k ≤ j) (hg : Gl X x) (tk : L2N.Takes X W) (ha : PA X (e :: es) t)
    (hdb : (x == ("__debug__" : Str)) = false := by decide) (hst : starEach (e :: es) X.env = (false, eval e X.env) :: starEach es X.env := by rfl) (hpl : (backTo pos (starEach es X.env)).any (·.1) = false := by rfl) :
    PE X (.Call (.Name x p) (e :: es) [] pos) (tCallS sp (WE W) t) := by
  obtain ⟨f, fd, ps, F, hm, kp, b⟩ := c.ex
  exact pe_callS F (hr.mono hk) hg hm kp b (fun σ => L2N.passAt tk σ) ha hdb hst hpl
theorem pe_ccH (c : CalH X.prog X.w X.K X.mg X.base k x sp) (hr : L2H.RoomH j X.A) (hk : k ≤ j) (hc : L2H.HotC X) (hg : Gl X x) (ha : PA X (e :: es) t)
    (hdb : (x == ("__debug__" : Str)) = false := by decide) (hst : starEach (e :: es) X.env = (false, eval e X.env) :: starEach es X.env := by rfl) (hpl : (backTo pos (starEach es X.env)).any (·.1) = false := by rfl) :
    PE X (.Call (.Name x p) (e :: es) [] pos) (tCallS sp (fun _ => E0) t) := by
  obtain ⟨f, fd, ps, F, hm, kp, b⟩ := c.ex
  exact L2H.pe_callH F (hr.mono hk) hc hg hm kp b (fun σ pins H s u s' I h => by
    obtain ⟨_, _, _, _, _, _, _, _, _, _, _, _, z⟩ := h
    exact z.elim) ha hdb hst hpl
end
/-- in the suite the caught exception is the hot one -/
theorem hot_suite {X : Cx} {a : Addr} {oe : Obj} {cls : Value} {d : Option Addr} {pn : List (Addr × Obj)} (hz : L2N.Zn cls d oe) (hf : ∃ vs, oe.data = .fields vs) : L2H.HotC (X.suite a ((a, oe) :: pn)) := by
  obtain ⟨vs, e⟩ := hf
  exact ⟨(a, oe), ⟨rfl, vs, e, hz.2.2 vs e⟩, List.mem_cons_self⟩
/-! ### isinstance of the caught exception, with or without fields -/
def rIsY (K : PySem.W.Frag) (a : Addr) (cls : Value) (d : Option Addr) (D : Addr) : List V → Hp → VK → Prop := fun xs H Q => ∃ (c : V) (cv : Value) (b : Bool), xs = [.ref a, c] ∧ cls = .ref D ∧ (d = none ∨ ∃ dd fs, d = some dd ∧ H dd = some (.xd fs)) ∧
  (∀ u, RelV c u → u = cv) ∧ PySem.W.kitOne K (.ref D) cv = some b ∧ Q (.bl b) H
theorem inst_xd {X : Cx} {pins : List (Addr × Obj)} {σ : L2.St} {H : Hp} {s : Shared} {a D : Addr} {oe : Obj} {d : Option Addr} {vs : Array Value} (I : Inv X pins σ H s) (hget : s.heap.get? a = some oe) (hz : Zc (.ref D) d oe) (hv : oe.data = .fields vs)
    (hd : d = none ∨ ∃ dd fs, d = some dd ∧ H dd = some (.xd fs)) : ∃ od, PySem.W.InstAt s.heap a oe D od := by
  obtain ⟨oc, odic, oda, osl⟩ := oe
  obtain ⟨h1, h2⟩ := hz
  dsimp only at h1 h2 hv
  subst h1 h2 hv
  rcases hd with e | ⟨dd, fs, e, ea⟩
  · subst e
    exact ⟨none, hget, rfl, rfl, trivial⟩
  · subst e
    obtain ⟨mA, hns, _⟩ := (show ObjOk X.prog X.w H s.heap dd (.xd fs) from I.hok dd _ ea)
    obtain ⟨ob, ho, _⟩ := lookIn_ns hns
    exact ⟨some ob, hget, rfl, rfl, ho⟩
theorem kit_excC {K : PySem.W.Frag} {a D : Addr} {oe : Obj} {od : Option Obj} (C : ExcC K D) : PySem.W.KitX K (.ref a) (.ref D) (fun h => PySem.W.InstAt h a oe D od) := by
  refine PySem.W.kitx_exc ?_ C.hg C.hk C.hs C.ha C.hn C.ht C.hm
  obtain ⟨cd, hc, _⟩ := PySem.W.any_some C.hd
  rw [hc]
  rfl
theorem k_isY {X : Cx} {K : PySem.W.Frag} {a D : Addr} {cls : Value} {d : Option Addr} {oe : Obj} {pn : List (Addr × Obj)} (h : X.K = K) (C : ExcC K D) (hz : Zc cls d oe) (hf : ∃ vs, oe.data = .fields vs) : CallR (X.suite a ((a, oe) :: pn)) (.builtin "isinstance") (rIsY K a cls d D) := by
  subst h
  intro pins s σ H xs us Q I r hyp
  obtain ⟨c, cv, b, rfl, ec, hd, hcv, e, q⟩ := hyp
  subst ec
  cases r with
  | cons rx rr =>
    cases rr with
    | cons rt rr =>
      cases rr
      cases rx
      obtain rfl := hcv _ rt
      obtain ⟨vs, hv⟩ := hf
      obtain ⟨od, J⟩ := inst_xd I (I.pin (a, oe) (List.mem_append.mpr (.inl List.mem_cons_self))).1 hz hv hd
      exact PySem.W.kia_one (kit_excC C) I.kIn J e (fun z => nomatch z) fun tk => ⟨.bl b, H, I.kept (t' := tk) fun _ _ z => z, rfl, q⟩
theorem w_isY {K : PySem.W.Frag} {D a : Addr} {d : Option Addr} {c : V} {cv : Value} {b : Bool} {H : Hp} {Q : VK} (hd : d = none ∨ ∃ dd fs, d = some dd ∧ H dd = some (.xd fs)) (hc : ∀ u, RelV c u → u = cv) (h : PySem.W.kitOne K (.ref D) cv = some b) (q : Q (.bl b) H) :
    rIsY K a (.ref D) d D [.ref a, c] H Q := ⟨c, cv, b, rfl, rfl, hd, hc, h, q⟩
theorem w_xf {a C : Addr} {cls : Value} {d : Option Addr} {f : Str} {te : TE} {σ : L2.St} {H : Hp} {Q : VK} (h : te σ H fun x H1 => x = .ref a ∧ cls = .ref C ∧ ∃ (dd : Addr) (fs : List (Str × V)) (v : V), d = some dd ∧ H1 dd = some (.xd fs) ∧ fs.lookup f = some v ∧ Q v H1) :
    tXf a cls d C f te σ H Q := h
theorem w_callS {sp : Sp} {E : L2.St → XK} {t : TA} {σ : L2.St} {H : Hp} {Q : VK} (h : t σ H fun vs H1 => sp vs H1 Q (E σ)) : tCallS sp E t σ H Q := h
theorem xf_of {K : PySem.W.Frag} {D : Addr} (C : ExcC K D) : XfC K D := ⟨C.hg, C.hk, C.hs, C.hd⟩
/-- an own class with its own __init__ -/
structure OexD (P : Program) (w : World) (K : PySem.W.Frag) (mg : Str → Option Value) (base : Heap) (k : Nat) (x : Str) (C : Addr) (sp : Sp) : Prop where
  T : OexC K C
  gl : mg x = some (.ref C)
  ex : ∃ (fI : Addr) (fd : FuncData) (ps : List Str), PySem.W.findIn K (.ref C) "__init__" = some (some (.ref fI)) ∧ PySem.W.typeIn K (.ref fI) = some (.type "function") ∧ FnOk P w K mg base (L2.CX P w) k fI fd ps sp ∧ Binds K fd ps []
theorem pmk_ox {X : Cx} {k j : Nat} {nm0 : Str} {C : Addr} {sp : Sp} {e : Expr} {es : List Expr} {ta : TA} {p pos : Pos} (O : OexD X.prog X.w X.K X.mg X.base k nm0 C sp) (hr : Room j X.A) (hk : k + 1 ≤ j) (hg : Gl X nm0) (ha : PA X (e :: es) ta)
    (hdb : (nm0 == ("__debug__" : Str)) = false := by decide) (hst : starEach (e :: es) X.env = (false, eval e X.env) :: starEach es X.env := by rfl) (hpl : (backTo pos (starEach es X.env)).any (·.1) = false := by rfl) :
    L2N.PMk X (.Call (.Name nm0 p) (e :: es) [] pos) (tMkO C sp [] ta) := by
  obtain ⟨fI, fd, ps, iC, tI, F, b⟩ := O.ex
  exact pmk_oexN O.T iC tI F (hr.mono hk) b (fun pins σ H s u s' I h => by
    obtain ⟨_, _, _, _, _, _, _, _, _, _, _, _, z⟩ := h
    exact z.elim) hg O.gl ha hdb hst hpl
/-- __init__(self, x, y): two fields -/
def sp_init2 (K : PySem.W.Frag) (C : Addr) (f g : Str) : Sp := fun vs H Q _ => ∃ (a : Addr) (x y : V), vs = [.ref a, x, y] ∧ H a = some (exo a C none) ∧
  ∀ (d : Addr) H', H d = none → d ≠ a → (∀ b, b ≠ a → b ≠ d → H' b = H b) → H' a = some (exo a C (some d)) → H' d = some (exd d [(g, y), (f, x)]) → Q .non H'
def sp_init1 (K : PySem.W.Frag) (C : Addr) (f : Str) : Sp := fun vs H Q _ => ∃ (a : Addr) (x : V), vs = [.ref a, x] ∧ H a = some (exo a C none) ∧
  ∀ (d : Addr) H', H d = none → d ≠ a → (∀ b, b ≠ a → b ≠ d → H' b = H b) → H' a = some (exo a C (some d)) → H' d = some (exd d [(f, x)]) → Q .non H'
theorem w_mkO {C : Addr} {sp : Sp} {ta : TA} {σ : L2.St} {H : Hp} {Q : XK} (h : ta σ H fun vs H1 => vs.length ≤ 1000 ∧ ∀ a, H1 a = none → sp (.ref a :: (vs ++ [])) (upd H1 a (exo a C none))
    (fun v H2 => v = .non ∧ ∃ (d : Addr) (fs : List (Str × V)), H2 a = some (exo a C (some d)) ∧ H2 d = some (exd d fs) ∧ H1 d = none ∧ Q (.ref C) (some d) (upd (del H2 a) d (.xd fs))) (fun _ _ _ => False)) : tMkO C sp [] ta σ H Q := h
theorem made_ch {H1 H' : Hp} {a C d : Addr} {o u : HO} {fs : List (Str × V)} (na : H1 a = none) (hd : upd H1 a o d = none) (da : d ≠ a) (hk : ∀ b, b ≠ a → b ≠ d → H' b = upd H1 a o b) : Ch [] H1 (upd (del H' a) d u) := fun b ob e => by
  have n1 : b ≠ a := ne_of_none e na
  have hd1 : H1 d = none := by rw [upd_ne da] at hd; exact hd
  have n2 : b ≠ d := ne_of_none e hd1
  left
  rw [upd_ne n2, del_ne n1, hk b n1 n2, upd_ne n1]
  exact e
theorem mk2_at {K : PySem.W.Frag} {C : Addr} {f g : Str} {x y : V} {H1 : Hp} {Q : XK} (h : ∀ (d : Addr) H', Ch [] H1 H' → H' d = some (.xd [(g, y), (f, x)]) → Q (.ref C) (some d) H') :
    [x, y].length ≤ 1000 ∧ ∀ a, H1 a = none → sp_init2 K C f g (.ref a :: ([x, y] ++ [])) (upd H1 a (exo a C none))
      (fun v H2 => v = .non ∧ ∃ (d : Addr) (fs : List (Str × V)), H2 a = some (exo a C (some d)) ∧ H2 d = some (exd d fs) ∧ H1 d = none ∧ Q (.ref C) (some d) (upd (del H2 a) d (.xd fs))) (fun _ _ _ => False) :=
  ⟨(show 2 ≤ 1000 by decide), fun a na => ⟨a, x, y, rfl, upd_same, fun d H' hd da hk ha hd2 => ⟨rfl, d, _, ha, hd2, by rw [upd_ne da] at hd; exact hd, h d _ (made_ch (C := C) (fs := []) na hd da hk) upd_same⟩⟩⟩
theorem mk1_at {K : PySem.W.Frag} {C : Addr} {f : Str} {x : V} {H1 : Hp} {Q : XK} (h : ∀ (d : Addr) H', Ch [] H1 H' → H' d = some (.xd [(f, x)]) → Q (.ref C) (some d) H') :
    [x].length ≤ 1000 ∧ ∀ a, H1 a = none → sp_init1 K C f (.ref a :: ([x] ++ [])) (upd H1 a (exo a C none))
      (fun v H2 => v = .non ∧ ∃ (d : Addr) (fs : List (Str × V)), H2 a = some (exo a C (some d)) ∧ H2 d = some (exd d fs) ∧ H1 d = none ∧ Q (.ref C) (some d) (upd (del H2 a) d (.xd fs))) (fun _ _ _ => False) :=
  ⟨(show 1 ≤ 1000 by decide), fun a na => ⟨a, x, rfl, upd_same, fun d H' hd da hk ha hd2 => ⟨rfl, d, _, ha, hd2, by rw [upd_ne da] at hd; exact hd, h d _ (made_ch (C := C) (fs := []) na hd da hk) upd_same⟩⟩⟩
/-! ### the text of such an __init__: self.f = x; self.g = y -/
section
variable {P : Program} {w : World} {K : PySem.W.Frag} {mg : Str → Option Value} {base : Heap} {C fI : Addr} {fd : FuncData} {f g : Str} {st : Stmt} {qual : Str} {p1 p2 p3 p4 p5 p6 p7 p8 : Pos}
theorem exd_upd {H : Hp} {a d C : Addr} {o : HO} (na : H d = none) (da : d ≠ a) : upd (upd H d o) a (exo a C (some d)) d = some o := by rw [upd_ne da, upd_same]
theorem init2_pure {H : Hp} {Q : VK} {x y : V} {a : Addr} (T : OexC K C) (nf : PySem.W.findIn K (.ref C) f = some none) (ng : PySem.W.findIn K (.ref C) g = some none) (ea : H a = some (exo a C none))
    (q : ∀ (d : Addr) H', H d = none → d ≠ a → (∀ b, b ≠ a → b ≠ d → H' b = H b) → H' a = some (exo a C (some d)) → H' d = some (exd d [(g, y), (f, x)]) → Q .non H') :
    tSeq (tOst K f (tVar 0) (tVar 1)) (tOst K g (tVar 0) (tVar 2)) { nx := fun _ H' => Q .non H', rt := Q } [some (.ref a), some x, some y] H := by
  refine ⟨x, rfl, .ref a, rfl, a, C, rfl, T, nf, .inl ⟨ea, fun dx hdx hda => ⟨y, rfl, .ref a, rfl, a, C, rfl, T, ng, .inr ⟨dx, _, upd_same, exd_upd hdx hda, by simp, ?_⟩⟩⟩⟩
  refine q dx _ hdx hda (fun b hb hd => ?_) ?_ upd_same
  · rw [upd_ne hd, upd_ne hb, upd_ne hd]
  · rw [upd_ne (Ne.symm hda), upd_same]
theorem init1_pure {H : Hp} {Q : VK} {x : V} {a : Addr} (T : OexC K C) (nf : PySem.W.findIn K (.ref C) f = some none) (ea : H a = some (exo a C none))
    (q : ∀ (d : Addr) H', H d = none → d ≠ a → (∀ b, b ≠ a → b ≠ d → H' b = H b) → H' a = some (exo a C (some d)) → H' d = some (exd d [(f, x)]) → Q .non H') :
    tOst K f (tVar 0) (tVar 1) { nx := fun _ H' => Q .non H', rt := Q } [some (.ref a), some x] H := by
  refine ⟨x, rfl, .ref a, rfl, a, C, rfl, T, nf, .inl ⟨ea, fun dx hdx hda => ?_⟩⟩
  refine q dx _ hdx hda (fun b hb hd => ?_) upd_same (exd_upd hdx hda)
  rw [upd_ne hb, upd_ne hd]
end
end My
/-! rows as plain lists of ints -/
namespace My
def coef (p : List Int) (i : Nat) : Int := p.getD i 0
theorem coef_nil (i : Nat) : coef [] i = 0 := by simp [coef]
theorem coef_cons_zero (a : Int) (p : List Int) : coef (a :: p) 0 = a := by simp [coef]
theorem coef_cons_succ (a : Int) (p : List Int) (i : Nat) : coef (a :: p) (i + 1) = coef p i := by simp [coef]
theorem coef_ge {p : List Int} {i : Nat} (h : p.length ≤ i) : coef p i = 0 := by
  simp [coef, List.getD, List.getElem?_eq_none h]
theorem coef_lt {p : List Int} {i : Nat} (h : i < p.length) : coef p i = p[i] := by
  simp [coef, h]
theorem coef_get {p : List Int} {i : Nat} {x : Int} (h : p[i]? = some x) : coef p i = x := by
  simp [coef, List.getD, h]
theorem get_coef {p : List Int} {i : Nat} (h : i < p.length) : p[i]? = some (coef p i) := by
  rw [List.getElem?_eq_getElem h, coef_lt h]
theorem coef_mem {p : List Int} {i : Nat} (h : i < p.length) : coef p i ∈ p := by
  rw [coef_lt h]
  exact List.getElem_mem h
theorem coef_take (p : List Int) (n i : Nat) : coef (p.take n) i = if i < n then coef p i else 0 := by
  unfold coef
  simp only [List.getD_eq_getElem?_getD, List.getElem?_take]
  split <;> simp
theorem coef_append (p q : List Int) (i : Nat) : coef (p ++ q) i = if i < p.length then coef p i else coef q (i - p.length) := by
  unfold coef
  simp only [List.getD_eq_getElem?_getD]
  split
  · rename_i h
    rw [List.getElem?_append_left h]
  · rename_i h
    rw [List.getElem?_append_right (by omega)]
theorem coef_set {p : List Int} {j : Nat} (hj : j < p.length) (v : Int) (i : Nat) : coef (p.set j v) i = if i = j then v else coef p i := by
  unfold coef
  simp only [List.getD_eq_getElem?_getD, List.getElem?_set]
  by_cases h : j = i
  · subst h
    simp [hj]
  · rw [if_neg h, if_neg (fun e => h e.symm)]
theorem coef_map {f : Int → Int} (h0 : f 0 = 0) (p : List Int) (i : Nat) : coef (p.map f) i = f (coef p i) := by
  unfold coef
  simp only [List.getD_eq_getElem?_getD, List.getElem?_map]
  cases p[i]? with
  | none => simp [h0]
  | some x => simp
theorem coef_rep (n i : Nat) : coef (List.replicate n 0) i = 0 := by
  unfold coef
  simp only [List.getD_eq_getElem?_getD, List.getElem?_replicate]
  split <;> simp
theorem coef_range (f : Nat → Int) (n i : Nat) : coef ((List.range n).map f) i = if i < n then f i else 0 := by
  unfold coef
  simp only [List.getD_eq_getElem?_getD, List.getElem?_map]
  by_cases h : i < n
  · rw [if_pos h, List.getElem?_range h]
    rfl
  · rw [if_neg h, List.getElem?_eq_none (by rw [List.length_range]; omega)]
    rfl

/-! ### rows -/
def IsRow (p : List Int) : Prop := p.getLast? ≠ some 0
theorem isRow_nil : IsRow [] := by simp [IsRow]
theorem isRow_iff {p : List Int} : IsRow p ↔ (p = [] ∨ coef p (p.length - 1) ≠ 0) := by
  unfold IsRow coef
  rw [List.getLast?_eq_getElem?]
  by_cases h : p = []
  · subst h
    simp
  · have hl : p.length - 1 < p.length := by
      have := List.length_pos_iff.mpr h
      omega
    simp [List.getD, hl, h]
theorem row_ext : ∀ {p q : List Int}, IsRow p → IsRow q → (∀ i, coef p i = coef q i) → p = q := by
  intro p q hp hq h
  have hlen : p.length = q.length := by
    rcases Nat.lt_trichotomy p.length q.length with c | c | c
    · exfalso
      rcases isRow_iff.mp hq with e | e
      · subst e
        simp at c
      · apply e
        rw [← h, coef_ge (by omega)]
    · exact c
    · exfalso
      rcases isRow_iff.mp hp with e | e
      · subst e
        simp at c
      · apply e
        rw [h, coef_ge (by omega)]
  apply List.ext_getElem hlen
  intro i h1 h2
  rw [← coef_lt h1, ← coef_lt h2, h]
def trim : List Int → List Int
  | [] => []
  | a :: p => if a = 0 ∧ trim p = [] then [] else a :: trim p
theorem coef_trim : ∀ (p : List Int) (i : Nat), coef (trim p) i = coef p i
  | [], _ => rfl
  | a :: p, i => by
    unfold trim
    split
    · rename_i h
      cases i with
      | zero => rw [coef_nil, coef_cons_zero, h.1]
      | succ i =>
        rw [coef_cons_succ, ← coef_trim p i, h.2, coef_nil, coef_nil]
    · cases i with
      | zero => rw [coef_cons_zero, coef_cons_zero]
      | succ i => rw [coef_cons_succ, coef_cons_succ, coef_trim p i]
theorem trim_row : ∀ p : List Int, IsRow (trim p)
  | [] => isRow_nil
  | a :: p => by
    unfold trim
    split
    · exact isRow_nil
    · rename_i h
      have ih := trim_row p
      unfold IsRow at ih ⊢
      cases e : trim p with
      | nil =>
        rw [List.getLast?_singleton]
        intro z
        exact h ⟨Option.some.inj z, e⟩
      | cons b r =>
        rw [e] at ih
        rw [List.getLast?_cons_cons]
        exact ih
theorem trim_eq {p q : List Int} (hq : IsRow q) (h : ∀ i, coef p i = coef q i) : trim p = q := row_ext (trim_row p) hq fun i => by rw [coef_trim, h]
theorem trim_congr {p q : List Int} (h : ∀ i, coef p i = coef q i) : trim p = trim q := row_ext (trim_row p) (trim_row q) fun i => by rw [coef_trim, coef_trim, h]
theorem trim_id {p : List Int} (h : IsRow p) : trim p = p := trim_eq h fun _ => rfl
theorem trim_len : ∀ p : List Int, (trim p).length ≤ p.length
  | [] => Nat.le_refl _
  | a :: p => by
    unfold trim
    split
    · exact Nat.zero_le _
    · have := trim_len p
      simp only [List.length_cons]
      omega
/-- cutting at the last that is not zero -/
theorem take_trim {p : List Int} {s : Nat} (hs : s ≤ p.length) (h0 : ∀ i, s ≤ i → coef p i = 0) (h1 : s = 0 ∨ coef p (s - 1) ≠ 0) : p.take s = trim p := by
  symm
  apply trim_eq
  · rw [isRow_iff]
    rcases h1 with e | e
    · left
      rw [e]
      simp
    · by_cases hz : s = 0
      · left
        rw [hz]
        simp
      · right
        rw [List.length_take, Nat.min_eq_left hs, coef_take, if_pos (by omega)]
        exact e
  · intro i
    rw [coef_take]
    split
    · rfl
    · exact h0 i (by omega)
theorem trim_mem {p : List Int} {x : Int} : x ∈ trim p → x ∈ p := by
  induction p with
  | nil => exact id
  | cons a p ih =>
    unfold trim
    split
    · intro h
      simp at h
    · intro h
      rcases List.mem_cons.mp h with e | h
      · rw [e]
        exact List.mem_cons_self ..
      · exact List.mem_cons_of_mem _ (ih h)

/-! ### sum, product -/
def padd : List Int → List Int → List Int
  | [], q => q
  | a :: p, [] => a :: p
  | a :: p, b :: q => (a + b) :: padd p q
theorem coef_padd : ∀ (p q : List Int) (i : Nat), coef (padd p q) i = coef p i + coef q i
  | [], q, i => by rw [coef_nil, Int.zero_add]; rfl
  | a :: p, [], i => by rw [coef_nil, Int.add_zero]; rfl
  | a :: p, b :: q, 0 => by
    show coef ((a + b) :: padd p q) 0 = _
    rw [coef_cons_zero, coef_cons_zero, coef_cons_zero]
  | a :: p, b :: q, i + 1 => by
    show coef ((a + b) :: padd p q) (i + 1) = _
    rw [coef_cons_succ, coef_cons_succ, coef_cons_succ, coef_padd p q i]
theorem padd_len : ∀ p q : List Int, (padd p q).length = max p.length q.length
  | [], q => by simp [padd]
  | a :: p, [] => by simp [padd]
  | a :: p, b :: q => by
    show (padd p q).length + 1 = _
    rw [padd_len p q]
    simp only [List.length_cons]
    omega
def pscale (n : Int) (p : List Int) : List Int := p.map (n * ·)
theorem coef_pscale (n : Int) (p : List Int) (i : Nat) : coef (pscale n p) i = n * coef p i := coef_map (f := (n * ·)) (Int.mul_zero n) p i
def pmul : List Int → List Int → List Int
  | [], _ => []
  | a :: p, q => padd (pscale a q) (0 :: pmul p q)
theorem coef_pmul_cons (a : Int) (p q : List Int) (k : Nat) : coef (pmul (a :: p) q) k = a * coef q k + (if k = 0 then 0 else coef (pmul p q) (k - 1)) := by
  show coef (padd (pscale a q) (0 :: pmul p q)) k = _
  rw [coef_padd, coef_pscale]
  cases k with
  | zero => rw [coef_cons_zero, if_pos rfl]
  | succ k => rw [coef_cons_succ, if_neg (Nat.succ_ne_zero k), Nat.add_sub_cancel]
theorem coef_pmul_app (a : Int) (q : List Int) : ∀ (p : List Int) (k : Nat), coef (pmul (p ++ [a]) q) k = coef (pmul p q) k + (if p.length ≤ k then a * coef q (k - p.length) else 0)
  | [], k => by
    rw [List.nil_append, coef_pmul_cons]
    have e : ∀ j, coef (pmul [] q) j = 0 := fun j => coef_nil j
    rw [e, e, List.length_nil, if_pos (Nat.zero_le k), Nat.sub_zero]
    split <;> omega
  | b :: p, k => by
    rw [List.cons_append, coef_pmul_cons, coef_pmul_cons]
    cases k with
    | zero =>
      rw [if_pos rfl, if_pos rfl, if_neg (by simp)]
      omega
    | succ k =>
      rw [if_neg (Nat.succ_ne_zero k), if_neg (Nat.succ_ne_zero k), Nat.add_sub_cancel, coef_pmul_app a q p k, List.length_cons]
      by_cases h : p.length ≤ k
      · rw [if_pos h, if_pos (by omega), Nat.succ_sub_succ]
        omega
      · rw [if_neg h, if_neg (by omega)]
        omega
theorem coef_pmul_take {p q : List Int} {i : Nat} (hi : i < p.length) (k : Nat) : coef (pmul (p.take (i + 1)) q) k = coef (pmul (p.take i) q) k + (if i ≤ k then coef p i * coef q (k - i) else 0) := by
  have e : p.take (i + 1) = p.take i ++ [coef p i] := by
    rw [List.take_add_one, get_coef hi]
    rfl
  rw [e, coef_pmul_app, List.length_take, Nat.min_eq_left (Nat.le_of_lt hi)]
theorem coef_pmul_set (q : List Int) (v : Int) : ∀ {p : List Int} {j : Nat} (hj : j < p.length) (h0 : coef p j = 0) (k : Nat), coef (pmul (p.set j v) q) k = coef (pmul p q) k + (if j ≤ k then v * coef q (k - j) else 0)
  | [], j, hj, _, _ => absurd hj (by simp)
  | a :: p, 0, _, h0, k => by
    rw [coef_cons_zero] at h0
    subst h0
    rw [List.set_cons_zero, coef_pmul_cons, coef_pmul_cons, if_pos (Nat.zero_le k), Nat.sub_zero]
    omega
  | a :: p, j + 1, hj, h0, k => by
    rw [coef_cons_succ] at h0
    rw [List.set_cons_succ, coef_pmul_cons, coef_pmul_cons]
    have hj' : j < p.length := by
      simp only [List.length_cons] at hj
      omega
    cases k with
    | zero => rw [if_pos rfl, if_pos rfl, if_neg (by omega)]; omega
    | succ k =>
      rw [if_neg (Nat.succ_ne_zero k), if_neg (Nat.succ_ne_zero k), Nat.add_sub_cancel, coef_pmul_set q v hj' h0 k]
      by_cases h : j ≤ k
      · rw [if_pos h, if_pos (by omega), Nat.succ_sub_succ]
        omega
      · rw [if_neg h, if_neg (by omega)]
        omega
theorem coef_pmul_ge : ∀ (p q : List Int) (k : Nat), p.length + q.length ≤ k + 1 → coef (pmul p q) k = 0
  | [], q, k, _ => coef_nil k
  | a :: p, q, k, h => by
    simp only [List.length_cons] at h
    rw [coef_pmul_cons]
    rw [coef_ge (p := q) (by omega)]
    cases k with
    | zero => simp
    | succ k =>
      rw [if_neg (Nat.succ_ne_zero k), Nat.add_sub_cancel, coef_pmul_ge p q k (by omega)]
      omega
theorem coef_pmul_top : ∀ (p q : List Int), p ≠ [] → q ≠ [] → coef (pmul p q) (p.length + q.length - 2) = coef p (p.length - 1) * coef q (q.length - 1)
  | [], _, h, _ => absurd rfl h
  | [a], q, _, hq => by
    have := List.length_pos_iff.mpr hq
    have e : ∀ j, coef (pmul [] q) j = 0 := fun j => coef_nil j
    have ea : [a].length + q.length - 2 = q.length - 1 := by
      simp only [List.length_cons, List.length_nil]
      omega
    rw [ea, coef_pmul_cons, e]
    show a * coef q (q.length - 1) + _ = coef [a] 0 * coef q (q.length - 1)
    rw [coef_cons_zero]
    split <;> omega
  | a :: b :: p, q, _, hq => by
    have hl := List.length_pos_iff.mpr hq
    have ih := coef_pmul_top (b :: p) q (List.cons_ne_nil _ _) hq
    rw [coef_pmul_cons]
    simp only [List.length_cons] at ih ⊢
    rw [coef_ge (p := q) (by omega), if_neg (by omega), show p.length + 1 + 1 + q.length - 2 - 1 = p.length + 1 + q.length - 2 by omega, ih, show p.length + 1 + 1 - 1 = (p.length + 1 - 1) + 1 by omega, coef_cons_succ]
    omega
theorem coef_pmul_nil : ∀ (p : List Int) (k : Nat), coef (pmul p []) k = 0
  | [], k => coef_nil k
  | a :: p, k => by
    rw [coef_pmul_cons, coef_nil]
    split
    · omega
    · rw [coef_pmul_nil p]
      omega
theorem pmul_row {p q : List Int} (hp : IsRow p) (hq : IsRow q) (h1 : p ≠ []) (h2 : q ≠ []) {l : List Int} (hl : l.length = p.length + q.length - 1) (hc : ∀ k, coef l k = coef (pmul p q) k) : IsRow l := by
  have l1 := List.length_pos_iff.mpr h1
  have l2 := List.length_pos_iff.mpr h2
  rw [isRow_iff]
  right
  rw [hl, hc, show p.length + q.length - 1 - 1 = p.length + q.length - 2 by omega, coef_pmul_top p q h1 h2]
  have a := (isRow_iff.mp hp).resolve_left h1
  have b := (isRow_iff.mp hq).resolve_left h2
  exact Int.mul_ne_zero a b
end My
/-! Euclid in few turns -/
namespace My
/-- the i-th turn of Euclid's rule, b below 2 ^ L at first -/
def Euc (L i x y : Nat) : Prop := (i % 2 = 0 → y * 2 ^ (i / 2) < 2 ^ L) ∧ (i % 2 = 1 → x * 2 ^ (i / 2) < 2 ^ L ∧ y < x)
theorem Euc.step {L i x y : Nat} (h : Euc L i x y) (hy : y ≠ 0) : Euc L (i + 1) y (x % y) := by
  have hlt : x % y < y := Nat.mod_lt _ (by omega)
  refine ⟨fun e => ?_, fun e => ?_⟩
  · obtain ⟨h1, h2⟩ := h.2 (by omega)
    have e2 : (i + 1) / 2 = i / 2 + 1 := by omega
    rw [e2, Nat.pow_succ]
    have hm : x % y * 2 ≤ x := by
      have a := Nat.div_add_mod x y
      have b : 1 ≤ x / y := (Nat.le_div_iff_mul_le (by omega)).mpr (by omega)
      have c : y * 1 ≤ y * (x / y) := Nat.mul_le_mul_left y b
      omega
    have hp : 0 < 2 ^ (i / 2) := Nat.two_pow_pos _
    calc x % y * (2 ^ (i / 2) * 2) = x % y * 2 * 2 ^ (i / 2) := by rw [Nat.mul_assoc, Nat.mul_comm 2]
      _ ≤ x * 2 ^ (i / 2) := Nat.mul_le_mul_right _ hm
      _ < 2 ^ L := h1
  · have h1 := h.1 (by omega)
    have e2 : (i + 1) / 2 = i / 2 := by omega
    rw [e2]
    exact ⟨h1, hlt⟩
theorem Euc.zero {L x y : Nat} (h : Euc L (2 * L + 4) x y) : y = 0 := by
  have h1 := h.1 (by omega)
  have e : (2 * L + 4) / 2 = L + 2 := by omega
  rw [e] at h1
  by_cases c : y = 0
  · exact c
  · exfalso
    have a : 1 * 2 ^ (L + 2) ≤ y * 2 ^ (L + 2) := Nat.mul_le_mul_right _ (by omega)
    have b : 2 ^ L ≤ 2 ^ (L + 2) := Nat.pow_le_pow_right (by decide) (by omega)
    omega
end My
/-! the simplest fraction of a stretch, in plain numbers -/
namespace My
theorem fdiv_bd {n d : Int} (hd : 0 < d) : n.fdiv d * d ≤ n ∧ n < (n.fdiv d + 1) * d := by
  have e := Int.mul_fdiv_add_fmod n d
  have a := Int.fmod_nonneg_of_pos n hd
  have b := Int.fmod_lt_of_pos n hd
  have c : d * n.fdiv d = n.fdiv d * d := Int.mul_comm _ _
  rw [Int.add_mul]
  omega
theorem lt_of_mul {a b c : Int} (hc : 0 < c) (h : a * c < b * c) : a < b := by
  by_cases k : a < b
  · exact k
  · exfalso
    have := Int.mul_le_mul_of_nonneg_right (show b ≤ a by omega) (show 0 ≤ c by omega)
    omega
theorem le_mul_pos {a b : Int} (ha : 0 ≤ a) (hb : 1 ≤ b) : a ≤ a * b := by
  have := Int.mul_le_mul_of_nonneg_left hb ha
  rw [Int.mul_one] at this
  exact this
/-- the loop's state -/
structure LI (n0 d0 m0 e0 D p pb q qb n d m e : Int) : Prop where
  dp : 0 < d
  ep : 0 ≤ e
  ne : n * e < m * d
  st : (p = 1 ∧ pb = 0 ∧ q = 0 ∧ qb = 1 ∧ n = n0 ∧ d = d0 ∧ m = m0 ∧ e = e0) ∨ (0 < n ∧ 0 < m ∧ 0 ≤ q ∧ 0 ≤ qb ∧ n ≤ D ∧ d ≤ D ∧ m ≤ D ∧ e ≤ D)
  dt : p * qb - pb * q = 1 ∨ p * qb - pb * q = -1
  im : (p * n + pb * d = n0 ∧ q * n + qb * d = d0) ∨ (p * n + pb * d = m0 ∧ q * n + qb * d = e0)
  im2 : (p * m + pb * e = n0 ∧ q * m + qb * e = d0) ∨ (p * m + pb * e = m0 ∧ q * m + qb * e = e0)
  pre : ∀ x y : Int, 1 ≤ y → n0 * y < x * d0 → x * e0 < m0 * y → ∃ x' y' : Int, x = p * x' + pb * y' ∧ y = q * x' + qb * y' ∧ 1 ≤ y' ∧ n * y' < x' * d ∧ x' * e < m * y'
  con : ∀ x' y' : Int, 1 ≤ y' → n * y' < x' * d → x' * e < m * y' → 1 ≤ q * x' + qb * y' ∧ n0 * (q * x' + qb * y') < (p * x' + pb * y') * d0 ∧ (p * x' + pb * y') * e0 < m0 * (q * x' + qb * y')
theorem LI.first {n d m e D : Int} (hd : 0 < d) (he : 0 < e) (h : n * e < m * d) : LI n d m e D 1 0 0 1 n d m e where
  dp := hd
  ep := by omega
  ne := h
  st := .inl ⟨rfl, rfl, rfl, rfl, rfl, rfl, rfl, rfl⟩
  dt := .inl (by omega)
  im := .inl ⟨by omega, by omega⟩
  im2 := .inr ⟨by omega, by omega⟩
  pre := fun x y hy h1 h2 => ⟨x, y, by omega, by omega, hy, h1, h2⟩
  con := fun x y hy h1 h2 => by
    have a : 0 * x + 1 * y = y := by omega
    have b : 1 * x + 0 * y = x := by omega
    rw [a, b]
    exact ⟨hy, h1, h2⟩
section
variable {n0 d0 m0 e0 D p pb q qb n d m e : Int}
/-- x' is beyond the whole part -/
theorem above {w x y : Int} (hd : 0 < d) (hw : w * d ≤ n) (hy : 1 ≤ y) (h : n * y < x * d) : w * y < x := by
  refine lt_of_mul hd ?_
  have := Int.mul_le_mul_of_nonneg_right hw (show 0 ≤ y by omega)
  have e1 : w * d * y = w * y * d := by rw [Int.mul_right_comm]
  omega
theorem LI.next (h : LI n0 d0 m0 e0 D p pb q qb n d m e) (hD : d0 ≤ D ∧ e0 ≤ D) (h0 : e ≠ 0) (w : Int) (hw : w = n.fdiv d) (hm : m ≤ (w + 1) * e) : LI n0 d0 m0 e0 D (p * w + pb) p (q * w + qb) q e (m - w * e) d (n - w * d) := by
  have hd := h.dp
  have he : 0 < e := by have := h.ep; omega
  obtain ⟨w1, w2⟩ := fdiv_bd (n := n) hd
  rw [← hw] at w1 w2
  have hwe : w * e < m := above hd w1 (by omega) (by
    have := h.ne
    have c1 : m * d = m * d := rfl
    exact this)
  have bD : d ≤ D ∧ e ≤ D := by
    rcases h.st with ⟨_, _, _, _, _, a, _, b⟩ | ⟨_, _, _, _, _, a, _, b⟩
    · rw [a, b]
      exact hD
    · exact ⟨a, b⟩
  have q0 : 0 ≤ q := by
    rcases h.st with ⟨_, _, a, _⟩ | ⟨_, _, a, _⟩ <;> omega
  have qb0 : 0 ≤ qb := by
    rcases h.st with ⟨_, _, _, a, _⟩ | ⟨_, _, _, a, _⟩ <;> omega
  have q1 : 0 ≤ q * w + qb := by
    rcases h.st with ⟨_, _, a, b, _⟩ | ⟨a, _⟩
    · rw [a, b]
      omega
    · have w0 : 0 ≤ w := by
        rw [hw]
        exact Int.fdiv_nonneg (by omega) (by omega)
      have := Int.mul_nonneg q0 w0
      omega
  have e1 : (w + 1) * e = w * e + e := by rw [Int.add_mul, Int.one_mul]
  have e2 : (w + 1) * d = w * d + d := by rw [Int.add_mul, Int.one_mul]
  have tr : ∀ a b u v : Int, (a * w + b) * u + a * v = a * (w * u + v) + b * u := fun a b u v => by
    simp only [Int.mul_add, Int.add_mul, Int.mul_assoc]
    omega
  refine ⟨by omega, by omega, ?_, .inr ⟨he, hd, q1, q0, bD.2, by omega, bD.1, by omega⟩, ?_, ?_, ?_, ?_, ?_⟩
  · have := h.ne
    rw [Int.mul_sub, Int.mul_sub]
    have a1 : e * n = n * e := Int.mul_comm _ _
    have a2 : e * (w * d) = d * (w * e) := by rw [Int.mul_left_comm, Int.mul_comm e d, Int.mul_left_comm d w e]
    have a3 : d * m = m * d := Int.mul_comm _ _
    omega
  · have := h.dt
    have a : (p * w + pb) * q - p * (q * w + qb) = -(p * qb - pb * q) := by
      rw [Int.add_mul, Int.mul_add]
      have b : p * w * q = p * (q * w) := by rw [Int.mul_assoc, Int.mul_comm w q]
      omega
    rw [a]
    omega
  · have s1 := tr p pb e (m - w * e)
    have s2 := tr q qb e (m - w * e)
    have s3 : w * e + (m - w * e) = m := by omega
    rw [s3] at s1 s2
    rw [s1, s2]
    exact h.im2
  · have s1 := tr p pb d (n - w * d)
    have s2 := tr q qb d (n - w * d)
    have s3 : w * d + (n - w * d) = n := by omega
    rw [s3] at s1 s2
    rw [s1, s2]
    exact h.im
  · intro x y hy i1 i2
    obtain ⟨x', y', ex, ey, hy', j1, j2⟩ := h.pre x y hy i1 i2
    have ab := above hd w1 hy' j1
    refine ⟨y', x' - w * y', ?_, ?_, by omega, ?_, ?_⟩
    · rw [tr p pb y' (x' - w * y'), ex]
      congr 1
      congr 1
      omega
    · rw [tr q qb y' (x' - w * y'), ey]
      congr 1
      congr 1
      omega
    · rw [Int.mul_sub, Int.mul_sub]
      have a1 : e * x' = x' * e := Int.mul_comm _ _
      have a2 : e * (w * y') = y' * (w * e) := by rw [Int.mul_left_comm, Int.mul_comm e y', Int.mul_left_comm y' w e]
      have a3 : y' * m = m * y' := Int.mul_comm _ _
      omega
    · rw [Int.mul_sub, Int.mul_sub]
      have a1 : d * x' = x' * d := Int.mul_comm _ _
      have a2 : d * (w * y') = y' * (w * d) := by rw [Int.mul_left_comm, Int.mul_comm d y', Int.mul_left_comm y' w d]
      have a3 : y' * n = n * y' := Int.mul_comm _ _
      omega
  · intro x y hy j1 j2
    have hx : 0 < x := by
      refine lt_of_mul (c := m - w * e) (by omega) ?_
      have := Int.mul_le_mul_of_nonneg_left hy (show 0 ≤ e by omega)
      omega
    have r := h.con (w * x + y) x (by omega) ?_ ?_
    · rw [tr p pb x y, tr q qb x y]
      exact r
    · rw [Int.mul_sub] at j2
      rw [Int.add_mul]
      have a1 : x * n = n * x := Int.mul_comm _ _
      have a2 : x * (w * d) = w * x * d := by rw [Int.mul_left_comm, Int.mul_assoc]
      have a3 : y * d = d * y := Int.mul_comm _ _
      omega
    · rw [Int.mul_sub] at j1
      rw [Int.add_mul]
      have a1 : x * m = m * x := Int.mul_comm _ _
      have a2 : x * (w * e) = w * x * e := by rw [Int.mul_left_comm, Int.mul_assoc]
      have a3 : y * e = e * y := Int.mul_comm _ _
      omega
/-- the loop's end -/
theorem LI.done (h : LI n0 d0 m0 e0 D p pb q qb n d m e) (w : Int) (hw : w = n.fdiv d) (hm : e = 0 ∨ (w + 1) * e < m) :
    1 ≤ q * (w + 1) + qb ∧ n0 * (q * (w + 1) + qb) < (p * (w + 1) + pb) * d0 ∧ (p * (w + 1) + pb) * e0 < m0 * (q * (w + 1) + qb) ∧ ∀ x y : Int, 1 ≤ y → n0 * y < x * d0 → x * e0 < m0 * y → q * (w + 1) + qb ≤ y := by
  have hd := h.dp
  obtain ⟨w1, w2⟩ := fdiv_bd (n := n) hd
  rw [← hw] at w1 w2
  have m1 : (w + 1) * e < m * 1 := by
    rcases hm with e0 | l
    · have := h.ne
      rw [e0, Int.mul_zero] at this ⊢
      have : 0 < m := lt_of_mul hd (by omega)
      omega
    · omega
  have c := h.con (w + 1) 1 (by decide) (by omega) m1
  rw [Int.mul_one, Int.mul_one] at c
  refine ⟨c.1, c.2.1, c.2.2, fun x y hy i1 i2 => ?_⟩
  obtain ⟨x', y', ex, ey, hy', j1, j2⟩ := h.pre x y hy i1 i2
  have ab := above hd w1 hy' j1
  rw [ey]
  rcases h.st with ⟨_, _, a, b, _⟩ | ⟨a, _, b, c', _⟩
  · rw [a, b]
    omega
  · have w0 : 0 ≤ w := by
      rw [hw]
      exact Int.fdiv_nonneg (by omega) (by omega)
    have s1 : w * 1 ≤ w * y' := Int.mul_le_mul_of_nonneg_left hy' w0
    have s2 : q * (w + 1) ≤ q * x' := Int.mul_le_mul_of_nonneg_left (by omega) b
    have s3 : qb * 1 ≤ qb * y' := Int.mul_le_mul_of_nonneg_left hy' c'
    omega
end
end My
/-! the simplest fraction of a stretch: sizes, what the law leans on -/
namespace My
/-- x / y is above the low end, below the high end -/
def Abv (x y : Int) : Option (Int × Int) → Prop
  | none => True
  | some (n, d) => n * y < x * d
def Blw (x y : Int) : Option (Int × Int) → Prop
  | none => True
  | some (m, e) => x * e < m * y
instance (x y : Int) (o : Option (Int × Int)) : Decidable (Abv x y o) := match o with
  | none => .isTrue trivial
  | some (n, d) => inferInstanceAs (Decidable (n * y < x * d))
instance (x y : Int) (o : Option (Int × Int)) : Decidable (Blw x y o) := match o with
  | none => .isTrue trivial
  | some (n, d) => inferInstanceAs (Decidable (x * d < n * y))
theorem small_of {u v n' d' T N D : Int} (hd : 1 ≤ d') (hv : 0 ≤ v) (hvD : v ≤ D) (hn : -N ≤ n' ∧ n' ≤ N) (ht : -T ≤ u * d' - v * n' ∧ u * d' - v * n' ≤ T) : -(D * N + T) ≤ u ∧ u ≤ D * N + T := by
  have N0 : 0 ≤ N := by omega
  have a1 : v * n' ≤ v * N := Int.mul_le_mul_of_nonneg_left hn.2 hv
  have a2 : v * (-N) ≤ v * n' := Int.mul_le_mul_of_nonneg_left hn.1 hv
  have a3 : v * N ≤ D * N := Int.mul_le_mul_of_nonneg_right hvD N0
  rw [Int.mul_neg] at a2
  by_cases c : 0 ≤ u
  · have := le_mul_pos c hd
    have b : 0 ≤ D * N := Int.mul_nonneg (by omega) N0
    omega
  · have := le_mul_pos (show 0 ≤ -u by omega) hd
    rw [Int.neg_mul] at this
    have b : 0 ≤ D * N := Int.mul_nonneg (by omega) N0
    omega
section
variable {n0 d0 m0 e0 D p pb q qb n d m e : Int}
/-- all that the loop holds is small -/
theorem LI.small (h : LI n0 d0 m0 e0 D p pb q qb n d m e) {N : Int} (hn : -N ≤ n0 ∧ n0 ≤ N) (hm : -N ≤ m0 ∧ m0 ≤ N) (hd : 0 < d0 ∧ d0 ≤ D) (he : 0 < e0 ∧ e0 ≤ D) :
    (0 ≤ q ∧ q ≤ D) ∧ (0 ≤ qb ∧ qb ≤ D) ∧ (-(D * N + D) ≤ p ∧ p ≤ D * N + D) ∧ (-(D * N + (N + D)) ≤ pb ∧ pb ≤ D * N + (N + D)) ∧ (-(N + D) ≤ n ∧ n ≤ N + D) ∧ (-(N + D) ≤ m ∧ m ≤ N + D) ∧ (d ≤ D ∧ e ≤ D) := by
  have dp := h.dp
  have ep := h.ep
  have qs : (0 ≤ q ∧ q ≤ D) ∧ (0 ≤ qb ∧ qb ≤ D) ∧ (-(N + D) ≤ n ∧ n ≤ N + D) ∧ (-(N + D) ≤ m ∧ m ≤ N + D) ∧ (d ≤ D ∧ e ≤ D) := by
    rcases h.st with ⟨_, _, a, b, c1, c2, c3, c4⟩ | ⟨n1, m1, a, b, c1, c2, c3, c4⟩
    · omega
    · have s1 := le_mul_pos a (show 1 ≤ n by omega)
      have s2 := le_mul_pos b (show 1 ≤ d by omega)
      have s3 := Int.mul_nonneg a (show 0 ≤ n by omega)
      have s4 := Int.mul_nonneg b (show 0 ≤ d by omega)
      rcases h.im with ⟨_, i⟩ | ⟨_, i⟩ <;> omega
  obtain ⟨k1, k2, k3, k4, k5⟩ := qs
  have pn : ∀ n' d' : Int, p * n + pb * d = n' → q * n + qb * d = d' → 1 ≤ d' → (-N ≤ n' ∧ n' ≤ N) → (-(D * N + D) ≤ p ∧ p ≤ D * N + D) ∧ (-(D * N + (N + D)) ≤ pb ∧ pb ≤ D * N + (N + D)) := fun n' d' e1 e2 hd' hn' => by
    have x1 : p * d' - q * n' = d * (p * qb - pb * q) := by
      rw [← e1, ← e2]
      simp only [Int.mul_add, Int.mul_sub]
      have a1 : p * (q * n) = q * (p * n) := Int.mul_left_comm _ _ _
      have a2 : p * (qb * d) = d * (p * qb) := by rw [Int.mul_comm d, Int.mul_assoc]
      have a3 : q * (pb * d) = d * (pb * q) := by rw [Int.mul_comm d, Int.mul_left_comm, Int.mul_assoc]
      omega
    have x2 : pb * d' - qb * n' = -(n * (p * qb - pb * q)) := by
      rw [← e1, ← e2]
      simp only [Int.mul_add, Int.mul_sub]
      have a1 : pb * (q * n) = n * (pb * q) := by rw [Int.mul_comm n, Int.mul_assoc]
      have a2 : pb * (qb * d) = qb * (pb * d) := Int.mul_left_comm _ _ _
      have a3 : qb * (p * n) = n * (p * qb) := by rw [Int.mul_comm n, Int.mul_left_comm, Int.mul_assoc]
      omega
    refine ⟨small_of hd' k1.1 k1.2 hn' ?_, small_of hd' k2.1 k2.2 hn' ?_⟩
    · rw [x1]
      rcases h.dt with z | z <;> rw [z] <;> omega
    · rw [x2]
      rcases h.dt with z | z <;> rw [z] <;> omega
  have r : (-(D * N + D) ≤ p ∧ p ≤ D * N + D) ∧ (-(D * N + (N + D)) ≤ pb ∧ pb ≤ D * N + (N + D)) := by
    rcases h.im with ⟨i1, i2⟩ | ⟨i1, i2⟩
    · exact pn _ _ i1 i2 (by omega) hn
    · exact pn _ _ i1 i2 (by omega) hm
  exact ⟨k1, k2, r.1, r.2, k3, k4, k5⟩
end
/-- the simplest of a stretch -/
structure Simp (lo hi : Option (Int × Int)) (P Q : Int) : Prop where
  q1 : 1 ≤ Q
  ab : Abv P Q lo
  bl : Blw P Q hi
  mn : ∀ x y : Int, 1 ≤ y → Abv x y lo → Blw x y hi → Q ≤ y
  wh : Q = 1 → ∀ x : Int, Abv x 1 lo → Blw x 1 hi → P.natAbs ≤ x.natAbs
theorem Simp.zero {lo hi : Option (Int × Int)} (h1 : Abv 0 1 lo) (h2 : Blw 0 1 hi) : Simp lo hi 0 1 := ⟨by decide, h1, h2, fun _ y h _ _ => h, fun _ x _ _ => Nat.zero_le _⟩
theorem Simp.least {n d : Int} {hi : Option (Int × Int)} (hd : 0 < d) (hn : 0 ≤ n) (h : Blw (n.fdiv d + 1) 1 hi) : Simp (some (n, d)) hi (n.fdiv d + 1) 1 := by
  obtain ⟨w1, w2⟩ := fdiv_bd (n := n) hd
  refine ⟨by decide, ?_, h, fun _ y h _ _ => h, fun _ x a _ => ?_⟩
  · show n * 1 < _
    omega
  · have a' : n * 1 < x * d := a
    have : n.fdiv d < x := lt_of_mul hd (by omega)
    have : 0 ≤ n.fdiv d := Int.fdiv_nonneg hn (by omega)
    omega
theorem Simp.great {m e g : Int} {lo : Option (Int × Int)} (he : 0 < e) (hm : m ≤ 0) (hg : g = -((-m).fdiv e) - 1) (h : Abv g 1 lo) : Simp lo (some (m, e)) g 1 := by
  obtain ⟨w1, w2⟩ := fdiv_bd (n := -m) he
  have f0 : 0 ≤ (-m).fdiv e := Int.fdiv_nonneg (by omega) (by omega)
  have eg : (-m).fdiv e = -g - 1 := by omega
  rw [eg] at w1 w2 f0
  have e1 : (-g - 1 + 1) * e = -(g * e) := by
    rw [show -g - 1 + 1 = -g by omega, Int.neg_mul]
  have e2 : (-g - 1) * e = -(g * e) - e := by rw [Int.sub_mul, Int.neg_mul, Int.one_mul]
  refine ⟨by decide, h, ?_, fun _ y h _ _ => h, fun _ x _ b => ?_⟩
  · show _ < m * 1
    omega
  · have b' : x * e < m * 1 := b
    have : x < g + 1 := lt_of_mul he (by rw [Int.add_mul, Int.one_mul]; omega)
    omega
theorem Simp.deep {n d m e P Q : Int} (h1 : 1 ≤ Q) (i1 : n * Q < P * d) (i2 : P * e < m * Q) (mn : ∀ x y : Int, 1 ≤ y → n * y < x * d → x * e < m * y → Q ≤ y) (no : ∀ x : Int, n < x * d → x * e < m → False) : Simp (some (n, d)) (some (m, e)) P Q :=
  ⟨h1, i1, i2, mn, fun e1 _ _ _ => (no P (by rw [e1] at i1; omega) (by rw [e1] at i2; omega)).elim⟩
theorem no_pos {n d m e : Int} (hd : 0 < d) (he : 0 < e) (h : m ≤ (n.fdiv d + 1) * e) : ∀ x : Int, n < x * d → x * e < m → False := fun x a b => by
  obtain ⟨w1, w2⟩ := fdiv_bd (n := n) hd
  have : n.fdiv d < x := lt_of_mul hd (by omega)
  have := Int.mul_le_mul_of_nonneg_right (show n.fdiv d + 1 ≤ x by omega) (show 0 ≤ e by omega)
  omega
theorem no_neg {n d m e g : Int} (hd : 0 < d) (he : 0 < e) (hg : g = -((-m).fdiv e) - 1) (h : g * d ≤ n) : ∀ x : Int, n < x * d → x * e < m → False := fun x a b => by
  obtain ⟨w1, w2⟩ := fdiv_bd (n := -m) he
  have eg : (-m).fdiv e = -g - 1 := by omega
  rw [eg] at w1 w2
  have e1 : (-g - 1 + 1) * e = -(g * e) := by
    rw [show -g - 1 + 1 = -g by omega, Int.neg_mul]
  have e2 : (-g - 1) * e = -(g * e) - e := by rw [Int.sub_mul, Int.neg_mul, Int.one_mul]
  have : x < g + 1 := lt_of_mul he (by rw [Int.add_mul, Int.one_mul]; omega)
  have := Int.mul_le_mul_of_nonneg_right (show x ≤ g by omega) (show 0 ≤ d by omega)
  omega
theorem Simp.cop {lo hi : Option (Int × Int)} {P Q : Int} (h : Simp lo hi P Q) : Nat.gcd P.natAbs Q.natAbs = 1 := by
  have q1 := h.q1
  generalize hg : Nat.gcd P.natAbs Q.natAbs = g
  have g0 : 0 < g := by
    rw [← hg]
    exact Nat.gcd_pos_of_pos_right _ (by omega)
  obtain ⟨p', ep⟩ := Int.ofNat_dvd_left.mpr (by rw [← hg]; exact Nat.gcd_dvd_left P.natAbs Q.natAbs : g ∣ P.natAbs)
  obtain ⟨q', eq⟩ := Int.ofNat_dvd_left.mpr (by rw [← hg]; exact Nat.gcd_dvd_right P.natAbs Q.natAbs : g ∣ Q.natAbs)
  have gi : (0 : Int) < g := by omega
  have q'1 : 1 ≤ q' := by
    have : 0 < q' := lt_of_mul gi (by rw [Int.mul_comm q', ← eq]; omega)
    omega
  have i1 : Abv p' q' lo := by
    have a := h.ab
    cases lo with
    | none => trivial
    | some o =>
      obtain ⟨n, d⟩ := o
      have a' : n * Q < P * d := a
      show n * q' < p' * d
      refine lt_of_mul gi ?_
      rw [ep, eq] at a'
      have x1 : n * (↑g * q') = n * q' * g := by rw [Int.mul_left_comm, Int.mul_comm]
      have x2 : ↑g * p' * d = p' * d * g := by rw [Int.mul_assoc, Int.mul_comm]
      omega
  have i2 : Blw p' q' hi := by
    have a := h.bl
    cases hi with
    | none => trivial
    | some o =>
      obtain ⟨n, d⟩ := o
      have a' : P * d < n * Q := a
      show p' * d < n * q'
      refine lt_of_mul gi ?_
      rw [ep, eq] at a'
      have x1 : n * (↑g * q') = n * q' * g := by rw [Int.mul_left_comm, Int.mul_comm]
      have x2 : ↑g * p' * d = p' * d * g := by rw [Int.mul_assoc, Int.mul_comm]
      omega
  have l := h.mn p' q' q'1 i1 i2
  have k := Int.mul_le_mul_of_nonneg_right (show (1 : Int) ≤ g by omega) (show 0 ≤ q' by omega)
  by_cases c : g = 1
  · exact c
  · exfalso
    have k2 := Int.mul_le_mul_of_nonneg_right (show (2 : Int) ≤ g by omega) (show 0 ≤ q' by omega)
    omega
/-- how great an end may be: its value A, its denominator D -/
def VB (A D : Int) : Option (Int × Int) → Prop
  | none => True
  | some (n, d) => 0 < d ∧ d ≤ D ∧ -(A * d) ≤ n ∧ n ≤ A * d
theorem VB.mono {A D A' D' : Int} {o : Option (Int × Int)} (h : VB A D o) (a : A ≤ A') (d : D ≤ D') : VB A' D' o := by
  cases o with
  | none => trivial
  | some p =>
    obtain ⟨x, y⟩ := p
    obtain ⟨h1, h2, h3, h4⟩ := h
    have := Int.mul_le_mul_of_nonneg_right a (show 0 ≤ y by omega)
    exact ⟨h1, by omega, by omega, by omega⟩
theorem Simp.vb {lo hi : Option (Int × Int)} {P Q A D : Int} (h : Simp lo hi P Q) (hA : 0 ≤ A) (hD : 1 ≤ D) (h1 : VB A D lo) (h2 : VB A D hi) : VB (A + 1) (D + D) (some (P, Q)) := by
  have q1 := h.q1
  have int1 : (∃ x : Int, x.natAbs ≤ (A + 1).natAbs ∧ Abv x 1 lo ∧ Blw x 1 hi) → VB (A + 1) (D + D) (some (P, Q)) := fun ⟨x, hx, a, b⟩ => by
    have l := h.mn x 1 (by decide) a b
    have e : Q = 1 := by omega
    have w := h.wh e x a b
    subst e
    refine ⟨by decide, by omega, ?_, ?_⟩ <;> omega
  cases lo with
  | none => cases hi with
    | none => exact int1 ⟨0, Nat.zero_le _, trivial, trivial⟩
    | some o =>
      obtain ⟨m, e⟩ := o
      obtain ⟨e0, _, e1, e2⟩ := h2
      refine int1 ⟨-(A + 1), by omega, trivial, ?_⟩
      show -(A + 1) * e < m * 1
      rw [Int.neg_mul, Int.add_mul, Int.one_mul]
      omega
  | some o =>
    obtain ⟨n, d⟩ := o
    obtain ⟨d0, d1, d2, d3⟩ := h1
    cases hi with
    | none =>
      refine int1 ⟨A + 1, by omega, ?_, trivial⟩
      show n * 1 < (A + 1) * d
      rw [Int.add_mul, Int.one_mul]
      omega
    | some o =>
      obtain ⟨m, e⟩ := o
      obtain ⟨e0, e1, e2, e3⟩ := h2
      have a : n * Q < P * d := h.ab
      have b : P * e < m * Q := h.bl
      -- n e < m d
      have ne : n * e < m * d := by
        refine lt_of_mul (show 0 < Q by omega) ?_
        have s1 : n * Q * e < P * d * e := Int.mul_lt_mul_of_pos_right a e0
        have s2 : P * e * d < m * Q * d := Int.mul_lt_mul_of_pos_right b d0
        have s3 : n * e * Q = n * Q * e := Int.mul_right_comm _ _ _
        have s4 : m * d * Q = m * Q * d := Int.mul_right_comm _ _ _
        have s5 : P * d * e = P * e * d := Int.mul_right_comm _ _ _
        omega
      have med := h.mn (n + m) (d + e) (by omega) (by
        show n * (d + e) < (n + m) * d
        rw [Int.mul_add, Int.add_mul]
        omega) (by
        show (n + m) * e < m * (d + e)
        rw [Int.mul_add, Int.add_mul]
        omega)
      have s1 : n * Q ≥ -(A * d) * Q := Int.mul_le_mul_of_nonneg_right d2 (by omega)
      have s2 : m * Q ≤ A * e * Q := Int.mul_le_mul_of_nonneg_right e3 (by omega)
      have t1 : -(A * Q) < P := lt_of_mul d0 (by
        have x1 : -(A * d) * Q = -(A * Q) * d := by rw [Int.neg_mul, Int.neg_mul, Int.mul_right_comm]
        omega)
      have t2 : P < A * Q := lt_of_mul e0 (by
        have x1 : A * e * Q = A * Q * e := Int.mul_right_comm _ _ _
        omega)
      refine ⟨by omega, by omega, ?_, ?_⟩
      · rw [Int.add_mul, Int.one_mul]
        omega
      · rw [Int.add_mul, Int.one_mul]
        omega
end My
/-! known answers: mirrored stretches, a known integer, the mediant of neighbours -/
namespace My
def ng : Option (Int × Int) → Option (Int × Int)
  | none => none
  | some (n, d) => some (-n, d)
theorem abv_ng {x y : Int} {o : Option (Int × Int)} (h : Blw (-x) y o) : Abv x y (ng o) := by
  cases o with
  | none => trivial
  | some p =>
    obtain ⟨m, e⟩ := p
    have h' : -x * e < m * y := h
    show -m * y < x * e
    rw [Int.neg_mul] at h' ⊢
    omega
theorem blw_ng {x y : Int} {o : Option (Int × Int)} (h : Abv (-x) y o) : Blw x y (ng o) := by
  cases o with
  | none => trivial
  | some p =>
    obtain ⟨m, e⟩ := p
    have h' : m * y < -x * e := h
    show x * e < -m * y
    rw [Int.neg_mul] at h' ⊢
    omega
theorem ng_ng (o : Option (Int × Int)) : ng (ng o) = o := by
  cases o with
  | none => rfl
  | some p =>
    obtain ⟨m, e⟩ := p
    show some (- -m, e) = some (m, e)
    rw [Int.neg_neg]
theorem Simp.neg {lo hi : Option (Int × Int)} {X Y : Int} (S : Simp (ng hi) (ng lo) X Y) : Simp lo hi (-X) Y := by
  refine ⟨S.q1, ?_, ?_, fun x y hy a b => S.mn (-x) y hy (abv_ng (by rw [Int.neg_neg]; exact b)) (blw_ng (by rw [Int.neg_neg]; exact a)), fun e x a b => ?_⟩
  · have := abv_ng (x := -X) (y := Y) (o := ng lo) (by rw [Int.neg_neg]; exact S.bl)
    rw [ng_ng] at this
    exact this
  · have := blw_ng (x := -X) (y := Y) (o := ng hi) (by rw [Int.neg_neg]; exact S.ab)
    rw [ng_ng] at this
    exact this
  · have := S.wh e (-x) (abv_ng (by rw [Int.neg_neg]; exact b)) (blw_ng (by rw [Int.neg_neg]; exact a))
    omega
/-- a stretch whose simplest number is the integer N -/
structure Kn (N : Int) (lo hi : Option (Int × Int)) : Prop where
  n0 : 0 ≤ N
  ab : Abv N 1 lo
  bl : Blw N 1 hi
  lst : 0 < N → ∃ n d, lo = some (n, d) ∧ 0 < d ∧ (N - 1) * d ≤ n
theorem Kn.eq {N : Int} {lo hi : Option (Int × Int)} {X Y : Int} (k : Kn N lo hi) (S : Simp lo hi X Y) : X = N ∧ Y = 1 := by
  have n0 := k.n0
  have q1 := S.q1
  have l := S.mn N 1 (by decide) k.ab k.bl
  have e : Y = 1 := by omega
  have w := S.wh e N k.ab k.bl
  refine ⟨?_, e⟩
  by_cases c : 0 < N
  · obtain ⟨n, d, e1, d0, le⟩ := k.lst c
    subst e1
    have a : n * Y < X * d := S.ab
    rw [e, Int.mul_one] at a
    have : N - 1 < X := lt_of_mul d0 (by omega)
    omega
  · omega
/-- the mediant of two neighbours -/
theorem mediant {p q r s X Y : Int} {lo hi : Option (Int × Int)} (hq : 0 < q) (hs : 0 < s) (dt : r * q - p * s = 1) (h1 : ∀ x y : Int, 1 ≤ y → Abv x y lo → p * y < x * q) (h2 : ∀ x y : Int, 1 ≤ y → Blw x y hi → x * s < r * y)
    (a : Abv (p + r) (q + s) lo) (b : Blw (p + r) (q + s) hi) (S : Simp lo hi X Y) : X = p + r ∧ Y = q + s := by
  have l := S.mn (p + r) (q + s) (by omega) a b
  have u := h1 X Y S.q1 S.ab
  have v := h2 X Y S.q1 S.bl
  have eY : Y = q * (r * Y - X * s) + s * (X * q - p * Y) := by
    rw [Int.mul_sub, Int.mul_sub]
    have a1 : q * (r * Y) = Y * (r * q) := by rw [Int.mul_comm Y, Int.mul_comm r q, Int.mul_assoc]
    have a2 : s * (p * Y) = Y * (p * s) := by rw [Int.mul_comm Y, Int.mul_comm p s, Int.mul_assoc]
    have a3 : q * (X * s) = s * (X * q) := by rw [Int.mul_left_comm, Int.mul_comm q s, ← Int.mul_left_comm]
    have a4 : Y * (r * q) - Y * (p * s) = Y := by rw [← Int.mul_sub, dt, Int.mul_one]
    omega
  have eX : X = p * (r * Y - X * s) + r * (X * q - p * Y) := by
    rw [Int.mul_sub, Int.mul_sub]
    have a1 : r * (X * q) = X * (r * q) := Int.mul_left_comm _ _ _
    have a2 : p * (X * s) = X * (p * s) := Int.mul_left_comm _ _ _
    have a3 : p * (r * Y) = r * (p * Y) := Int.mul_left_comm _ _ _
    have a4 : X * (r * q) - X * (p * s) = X := by rw [← Int.mul_sub, dt, Int.mul_one]
    omega
  generalize hb : r * Y - X * s = bb at eY eX
  generalize ha : X * q - p * Y = aa at eY eX
  have b1 : 1 ≤ bb := by omega
  have a1 : 1 ≤ aa := by omega
  have t1 := Int.mul_le_mul_of_nonneg_left b1 (show 0 ≤ q by omega)
  have t2 := Int.mul_le_mul_of_nonneg_left a1 (show 0 ≤ s by omega)
  have e1 : bb = 1 := by
    by_cases c : bb = 1
    · exact c
    · have := Int.mul_le_mul_of_nonneg_left (show 2 ≤ bb by omega) (show 0 ≤ q by omega)
      omega
  have e2 : aa = 1 := by
    by_cases c : aa = 1
    · exact c
    · have := Int.mul_le_mul_of_nonneg_left (show 2 ≤ aa by omega) (show 0 ≤ s by omega)
      omega
  subst e1 e2
  omega
end My
namespace My
open PySem PySem.Spec PyProof.Rows L2
/-! ### isinstance -/
section
variable {K : PySem.W.Frag} {H : Hp} {Q : VK} {a : Addr} {xs : List V} {i : Int}
theorem w_isiII (q : Q (.bl true) H) : rIsi K [.int i, .ty "int"] H Q := ⟨_, _, _, _, _, rfl, .ty _, .base (.int i), kit_ty (by decide +kernel), q⟩
theorem w_isiIB (q : Q (.bl false) H) : rIsi K [.int i, .ty "bool"] H Q := ⟨_, _, _, _, _, rfl, .ty _, .base (.int i), kit_ty (by decide +kernel), q⟩
theorem tyT (h : SqT K H a xs) : TyX K H (.ref a) (.type "tuple") := by
  rcases h with (h | ⟨o, h⟩) | ⟨o, its, n, hk, hc, _⟩
  · exact .base (.tup h)
  · exact .fTuple h
  · exact .kTuple hk hc
theorem w_isiTT (h : SqT K H a xs) (q : Q (.bl true) H) : rIsi K [.ref a, .ty "tuple"] H Q := ⟨_, _, _, _, _, rfl, .ty _, tyT h, kit_ty (by decide +kernel), q⟩
theorem w_all {bs : List Bool} (h : SqL K H a (bs.map V.bl)) (q : Q (.bl (bs.all id)) H) : rAll K [.ref a] H Q := ⟨a, bs, rfl, h, q⟩
end
theorem ite_ndf {A B P : Prop} [Decidable P] (p : P) (h : B) : if (!decide P) = true then A else B := by rw [if_neg (by simp [p])]; exact h
theorem ite_ndt {A B P : Prop} [Decidable P] (p : ¬ P) (h : A) : if (!decide P) = true then A else B := by rw [if_pos (by simp [p])]; exact h
theorem abs_pow_lt {a : Int} {b s : Nat} (h : a.natAbs < 2 ^ b) : (a ^ s).natAbs < 2 ^ (b * s + 1) := by
  have e : (a ^ s).natAbs = a.natAbs ^ s := Int.natAbs_pow a s
  rw [e]
  have h1 : a.natAbs ^ s ≤ (2 ^ b) ^ s := Nat.pow_le_pow_left (Nat.le_of_lt h) s
  rw [← Nat.pow_mul] at h1
  exact Nat.lt_of_le_of_lt h1 (Nat.pow_lt_pow_right (by decide) (Nat.lt_succ_self _))
theorem abs_mono {x : Int} {a b : Nat} (hx : x.natAbs < 2 ^ a) (h : a ≤ b) : x.natAbs < 2 ^ b := Nat.lt_of_lt_of_le hx (Nat.pow_le_pow_right (by decide) h)
def RetT (K : PySem.W.Frag) (H : Hp) (Q : VK) (p : List Int) : Prop := ∀ a H', Ch [] H H' → SqT K H' a (ivs p) → Q (.ref a) H'
theorem eqv_ints : ∀ p r : List Int, PyData.eqvAll (p.map PyData.int) (r.map PyData.int) = decide (p = r)
  | [], [] => by simp [PyData.eqvAll]
  | [], y :: r => by simp [PyData.eqvAll]
  | x :: p, [] => by simp [PyData.eqvAll]
  | x :: p, y :: r => by
    have ih := eqv_ints p r
    show (PyData.eqv (.int x) (.int y) && PyData.eqvAll (p.map PyData.int) (r.map PyData.int)) = _
    rw [ih]
    show ((x == y) && decide (p = r)) = _
    by_cases h : x = y
    · subst h
      simp
    · simp [h]
theorem dp_ivs {K : PySem.W.Frag} {H : Hp} : ∀ p : List Int, DpAll K H (ivs p) (p.map PyData.int)
  | [] => .nil
  | x :: p => .cons (.int x) (dp_ivs p)
theorem lay_ints : ∀ p : List Int, PyData.canLayAll0 (p.map PyData.int) = true
  | [] => rfl
  | x :: p => by
    show (PyData.canLay0 (.int x) && PyData.canLayAll0 (p.map PyData.int)) = true
    rw [lay_ints p]
    rfl
theorem depth_ints : ∀ p : List Int, PyData.depthAll (p.map PyData.int) = 0
  | [] => rfl
  | x :: p => by
    show max (PyData.depth (.int x)) (PyData.depthAll (p.map PyData.int)) = 0
    rw [depth_ints p]
    rfl
theorem shaped_ints (p : List Int) : SeqAt.shaped (.tuple (p.map PyData.int)) = true := by
  show (PyData.canLayAll0 (p.map PyData.int) && decide (PyData.depthAll (p.map PyData.int) + 1 ≤ 64)) = true
  rw [lay_ints, depth_ints]
  rfl
theorem shapedL_ints (p : List Int) : SeqAt.shaped (.list (p.map PyData.int)) = true := by
  show (PyData.canLayAll0 (p.map PyData.int) && decide (PyData.depthAll (p.map PyData.int) + 1 ≤ 64)) = true
  rw [lay_ints, depth_ints]
  rfl
theorem w_eqT {K : PySem.W.Frag} {H : Hp} {Q : VK} {a b : Addr} {p r : List Int} (h1 : SqT K H a (ivs p)) (h2 : SqT K H b (ivs r)) (q : Q (.bl (decide (p = r))) H) : rEqD K (.ref a) (.ref b) H Q :=
  ⟨_, _, .tup h1 (dp_ivs p), .tup h2 (dp_ivs r), shaped_ints p, shaped_ints r, by
    show Q (.bl (PyData.eqvAll (p.map PyData.int) (r.map PyData.int))) H
    rw [eqv_ints]
    exact q⟩
theorem w_neT {K : PySem.W.Frag} {H : Hp} {Q : VK} {a b : Addr} {p r : List Int} (h1 : SqT K H a (ivs p)) (h2 : SqT K H b (ivs r)) (q : Q (.bl (!decide (p = r))) H) : rNeD K (.ref a) (.ref b) H Q :=
  ⟨_, _, .tup h1 (dp_ivs p), .tup h2 (dp_ivs r), shaped_ints p, shaped_ints r, by
    show Q (.bl (!PyData.eqvAll (p.map PyData.int) (r.map PyData.int))) H
    rw [eqv_ints]
    exact q⟩
theorem w_eqL {K : PySem.W.Frag} {H : Hp} {Q : VK} {a b : Addr} {p r : List Int} (h1 : SqL K H a (ivs p)) (h2 : SqL K H b (ivs r)) (q : Q (.bl (decide (p = r))) H) : rEqD K (.ref a) (.ref b) H Q :=
  ⟨_, _, .lst h1 (dp_ivs p), .lst h2 (dp_ivs r), shapedL_ints p, shapedL_ints r, by
    show Q (.bl (PyData.eqvAll (p.map PyData.int) (r.map PyData.int))) H
    rw [eqv_ints]
    exact q⟩
end My
open My PySem PySem.Spec PyProof.Rows L2
local macro_rules | `(tactic| walk_at "w1") => `(tactic| first
  | (with_reducible first
    | refine w_seq ?_
    | refine w_asg ?_
    | refine w_asgG ?_
    | refine w_ret ?_
    | refine w_drop ?_
    | refine w_if ?_
    | refine w_next ?_
    | refine w_break ?_
    | refine w_continue ?_
    | refine w_par ?_
    | refine w_two ?_
    | refine w_c ?_
    | refine w_op ?_
    | refine w_un ?_
    | refine w_I0 ?_
    | refine w_U ?_
    | refine w_eqI ?_
    | refine w_neI ?_
    | refine w_test ?_
    | refine w_B ?_
    | refine w_bl ?_
    | refine w_int ?_
    | refine w_N ?_
    | refine w_and ?_
    | refine w_or ?_
    | refine w_not ?_
    | refine w_andV ?_
    | refine w_orV ?_
    | refine w_notV ?_
    | refine w_ifE ?_
    | refine w_nil ?_
    | refine w_cons ?_
    | refine w_cb ?_
    | refine w_call ?_
    | refine w_tup ?_
    | refine w_lst ?_
    | refine w_abs ?_
    | refine w_max2 ?_
    | refine w_min2 ?_
    | refine w_int1 ?_
    | refine w_int1b ?_
    | refine w_gcd ?_
    | refine w_sl ?_
    | refine w_nopart ?_
    | refine w_part ?_
    | refine w_gname ?_
    | refine w_gsub ?_
    | refine w_gcons ?_
    | refine w_gnil ?_
    | refine w_bm ?_
    | refine w_for ?_
    | refine w_lc ?_
    | refine w_iL ?_
    | refine w_iT ?_
    | refine w_iR1 ?_
    | refine w_iR2 ?_
    | refine w_iE ?_
    | refine w_iV ?_
    | refine w_iR3 ?_
    | refine w_tru ?_
    | refine w_bits ?_)
  | ((with_reducible refine' w_var ?e ?_); (case e => with_unfolding_all rfl))
  | (with_reducible refine w_mod (by decide) ?_)
  | (with_reducible refine w_div (by decide) (by decide) ?_)
  | (with_reducible refine w_pow (by decide) (by decide) (by decide) ?_)
  | (with_reducible refine w_mulr (by decide) ?_)
  | (with_reducible refine w_mull (by decide) ?_)
  | ((with_reducible refine' w_ixL ?h ?e ?_); (case h => exact SqL.of (by assumption)); (case e => with_unfolding_all rfl))
  | ((with_reducible refine' w_ixT ?h ?e ?_); (case h => assumption); (case e => with_unfolding_all rfl)))
local macro_rules | `(tactic| walk_at "go") => `(tactic| repeat (walk_at "w1"))
local macro_rules | `(tactic| walk_at "hf") => `(tactic| first
  | assumption
  | (refine SqT.of ?_; walk_at "hf")
  | (refine SqL.of ?_; assumption)
  | (refine Ch.sqT (by assumption) ?_; walk_at "hf")
  | (refine Ch.at0 (by assumption) ?_; walk_at "hf")
  | (refine Ch.sq0 (by assumption) ?_; walk_at "hf")
  | (refine Ch.at1 (by assumption) (by first | assumption | exact Ne.symm (by assumption) | exact ne_of_none (by assumption) (by assumption) | exact Ne.symm (ne_of_none (by assumption) (by assumption))) ?_; walk_at "hf"))
local macro_rules | `(tactic| walk_at "sz") => `(tactic| first
  | assumption
  | (refine sz_le ?_; simp only [List.length_map, List.length_append, List.length_cons, List.length_nil, List.length_replicate, List.length_take, List.length_drop, List.length_range, List.length_set]; omega)
  | (refine sz_lt ?_; simp only [List.length_map, List.length_append, List.length_cons, List.length_nil, List.length_replicate, List.length_take, List.length_drop, List.length_range, List.length_set]; omega))

namespace My
open PySem PySem.Spec PyProof.Rows L2
def topS (i : Nat) : Stmt := PySem.Challenge.pw_cellspire_k01_simplest_fraction.main.body.getD i (.Pass ⟨0, 0, 0, 0⟩)
structure Txt (mg : Str → Option Value) : Prop where
  z_len : mg "len" = none
  z_tuple : mg "tuple" = none
  z_int : mg "int" = none
  z_bool : mg "bool" = none
  z_range : mg "range" = none
  z_isinstance : mg "isinstance" = none
  z_abs : mg "abs" = none
  z_min : mg "min" = none
/-- the numbers n, d of a fraction at a -/
abbrev Fr (K : PySem.W.Frag) (H : Hp) (a : Addr) (n d : Int) : Prop := SqT K H a (ivs [n, d])
/-- the box that the law draws from -/
def RB (H : Hp) (b : Addr) : Prop := ∃ x y z t : Int, H b = some (.lst [.int x, .int y, .int z, .int t])
theorem RB.mono {H H' : Hp} {b : Addr} (B : RB H b) (h : Ch [] H H') : RB H' b := by
  obtain ⟨x, y, z, t, h1⟩ := B
  exact ⟨x, y, z, t, h.at0 h1⟩
theorem RB.mono1 {H H' : Hp} {b c : Addr} (B : RB H b) (n : b ≠ c) (h : Ch [c] H H') : RB H' b := by
  obtain ⟨x, y, z, t, h1⟩ := B
  exact ⟨x, y, z, t, h.at1 n h1⟩
theorem RB.ne {H : Hp} {b c : Addr} (B : RB H b) (hc : H c = none) : b ≠ c := by
  obtain ⟨x, y, z, t, h1⟩ := B
  exact ne_of_none h1 hc
theorem w_chain {r r' : R2} {ta tb tc : TE} {σ : L2.St} {H : Hp} {Q : VK} (h : ta σ H fun x H1 => tb σ H1 fun y H2 => r x y H2 fun z H3 => ∃ k, z = .bl k ∧ (if k = true then tc σ H3 fun w' H4 => r' y w' H4 Q else Q (.bl false) H3)) : tChain r r' ta tb tc σ H Q := h
section
variable {P : Program} {w : World} {K : PySem.W.Frag} {mg : Str → Option Value} {base : Heap}
/-! ### signs, comparing, floor -/
def sgn (i : Int) : Int := if i < 0 then -1 else if i > 0 then 1 else 0
abbrev s_sign_of : Stmt := topS 7
theorem sc_sign_of : FnScope ["n"] ["n"] (defScope s_sign_of) := ⟨rfl, rfl, rfl, by decide +kernel, rfl, by decide +kernel, by decide +kernel⟩
def sp_sign_of : Sp := fun vs H Q _ => ∃ i : Int, vs = [.int i] ∧ Q (.int (sgn i)) H
theorem c_sign_of {f : Addr} {fd : FuncData} (F : DefF K mg "sign_of" s_sign_of ["n"] f fd) : Cal P w K mg base 1 "sign_of" sp_sign_of := by
  refine cal_of F sc_sign_of (fun vs H Q E h => by obtain ⟨_, rfl, _⟩ := h; rfl) (fun cdv A outer s H vs Q E hr h => ?_)
  obtain ⟨i, rfl, q⟩ := h
  refine ⟨_, (pss_cons (ps_if (pt_cmpR op_lt (pv 0) pe_int (nomark _)) (pss_one (ps_ret (pe_un un_neg pe_int))) pss_nil)
 (pss_cons (ps_if (pt_cmpR op_gt (pv 0) pe_int (nomark _)) (pss_one (ps_ret pe_int)) pss_nil)
 (pss_one (ps_ret pe_int)))), ?_⟩
  refine w_start (σ := [some _]) rfl ?_
  unfold sgn at q
  walk_at "go"
  refine ite_d (fun h => ?_) (fun h => ?_)
  · rw [if_pos h] at q
    walk_at "go"
    exact q
  · rw [if_neg h] at q
    walk_at "go"
    refine ite_d (fun h2 => ?_) (fun h2 => ?_)
    · rw [if_pos h2] at q
      exact q
    · rw [if_neg h2] at q
      exact q
abbrev s_compare : Stmt := topS 8
theorem sc_compare : FnScope ["a", "b"] ["a", "b"] (defScope s_compare) := ⟨rfl, rfl, rfl, by decide +kernel, rfl, by decide +kernel, by decide +kernel⟩
def sp_compare (K : PySem.W.Frag) : Sp := fun vs H Q _ => ∃ (a b : Addr) (n d m e : Int) (z : Nat), vs = [.ref a, .ref b] ∧ Fr K H a n d ∧ Fr K H b m e ∧ n.natAbs < 2 ^ z ∧ d.natAbs < 2 ^ z ∧ m.natAbs < 2 ^ z ∧ e.natAbs < 2 ^ z ∧ z ≤ 60000000 ∧ Q (.int (sgn (n * e - m * d))) H
theorem c_compare (C_sign_of : Cal P w K mg base 1 "sign_of" sp_sign_of) {f : Addr} {fd : FuncData} (F : DefF K mg "compare" s_compare ["a", "b"] f fd) : Cal P w K mg base 2 "compare" (sp_compare K) := by
  refine cal_of F sc_compare (fun vs H Q E h => by obtain ⟨_, _, _, _, _, _, _, rfl, _⟩ := h; rfl) (fun cdv A outer s H vs Q E hr h => ?_)
  obtain ⟨a, b, n, d, m, e, z, rfl, ha, hb, h1, h2, h3, h4, hz, q⟩ := h
  refine ⟨_, (pss_one (ps_ret (pe_cc C_sign_of hr (by decide) (by rfl) (pa_cons (pe_op op_sub (pe_op op_mulG (pe_ix (k_ixT (K := K) rfl) (pv 0) pe_int (fun _ _ => rfl)) (pe_ix (k_ixT (K := K) rfl) (pv 1) pe_int (fun _ _ => rfl))) (pe_op op_mulG (pe_ix (k_ixT (K := K) rfl) (pv 1) pe_int (fun _ _ => rfl)) (pe_ix (k_ixT (K := K) rfl) (pv 0) pe_int (fun _ _ => rfl)))) pa_nil)))), ?_⟩
  refine w_start (σ := [some _, some _]) rfl ?_
  walk_at "go"
  refine w_I (mul_ok h1 h4 (by omega)) ?_
  walk_at "go"
  refine w_I (mul_ok h3 h2 (by omega)) ?_
  walk_at "go"
  exact ⟨_, rfl, q⟩
abbrev s_floor : Stmt := topS 9
theorem sc_floor : FnScope ["a"] ["a"] (defScope s_floor) := ⟨rfl, rfl, rfl, by decide +kernel, rfl, by decide +kernel, by decide +kernel⟩
def sp_floor (K : PySem.W.Frag) : Sp := fun vs H Q _ => ∃ (a : Addr) (n d : Int) (z : Nat), vs = [.ref a] ∧ Fr K H a n d ∧ d ≠ 0 ∧ d.natAbs < 2 ^ z ∧ z ≤ 9000 ∧ Q (.int (n.fdiv d)) H
theorem c_floor {f : Addr} {fd : FuncData} (F : DefF K mg "floor" s_floor ["a"] f fd) : Cal P w K mg base 1 "floor" (sp_floor K) := by
  refine cal_of F sc_floor (fun vs H Q E h => by obtain ⟨_, _, _, _, rfl, _⟩ := h; rfl) (fun cdv A outer s H vs Q E hr h => ?_)
  obtain ⟨a, n, d, z, rfl, ha, hd, h2, hz, q⟩ := h
  refine ⟨_, (pss_one (ps_ret (pe_op op_fdivG (pe_ix (k_ixT (K := K) rfl) (pv 0) pe_int (fun _ _ => rfl)) (pe_ix (k_ixT (K := K) rfl) (pv 0) pe_int (fun _ _ => rfl))))), ?_⟩
  refine w_start (σ := [some _]) rfl ?_
  walk_at "go"
  refine w_I (div_ok hd h2 hz) ?_
  exact q
/-! ### the law's checks -/
abbrev s__law_is_integer : Stmt := topS 13
theorem sc__law_is_integer : FnScope ["told"] ["told"] (defScope s__law_is_integer) := ⟨rfl, rfl, rfl, by decide +kernel, rfl, by decide +kernel, by decide +kernel⟩
def sp__law_is_integer : Sp := fun vs H Q _ => ∃ i : Int, vs = [.int i] ∧ Q (.bl true) H
theorem c__law_is_integer (T : Txt mg) {f : Addr} {fd : FuncData} (F : DefF K mg "_law_is_integer" s__law_is_integer ["told"] f fd) : Cal P w K mg base 1 "_law_is_integer" sp__law_is_integer := by
  refine cal_of F sc__law_is_integer (fun vs H Q E h => by obtain ⟨_, rfl, _⟩ := h; rfl) (fun cdv A outer s H vs Q E hr h => ?_)
  obtain ⟨i, rfl, q⟩ := h
  refine ⟨_, (pss_one (ps_ret (pe_and (pe_callB (k_isi (K := K) rfl) (by rfl) T.z_isinstance (by decide +kernel) (pa_cons (pv 0) (pa_cons (pe_bltn (by rfl) T.z_int (by decide +kernel) (v := .ty "int") rfl) pa_nil))) (pe_one (pe_not (pe_callB (k_isi (K := K) rfl) (by rfl) T.z_isinstance (by decide +kernel) (pa_cons (pv 0) (pa_cons (pe_bltn (by rfl) T.z_bool (by decide +kernel) (v := .ty "bool") rfl) pa_nil)))))))), ?_⟩
  refine w_start (σ := [some _]) rfl ?_
  walk_at "go"
  refine w_isiII ?_
  walk_at "go"
  rw [if_pos rfl]
  walk_at "go"
  refine w_isiIB ?_
  exact ⟨_, rfl, q⟩
theorem h__law_is_integer (T : Txt mg) {f : Addr} {fd : FuncData} (F : DefF K mg "_law_is_integer" s__law_is_integer ["told"] f fd) : CalH P w K mg base 1 "_law_is_integer" sp__law_is_integer := by
  refine cal_ofH F sc__law_is_integer (fun vs H Q E h => by obtain ⟨_, rfl, _⟩ := h; rfl) (fun cdv A outer s H vs Q E p hot hr h => ?_)
  obtain ⟨i, rfl, q⟩ := h
  have hc : L2H.HotC (L2H.cxH (L2.CX P w) P w K mg base ["told"] "_law_is_integer" (defScope s__law_is_integer) f cdv A outer s H E p).nox := ⟨p, ⟨hot.1, hot.2⟩, List.mem_singleton.mpr rfl⟩
  refine ⟨_, (pss_one (ps_ret (pe_and (pe_callB (k_isi (K := K) rfl) (by rfl) T.z_isinstance (by decide +kernel) (pa_cons (pv 0) (pa_cons (pe_bltn (by rfl) T.z_int (by decide +kernel) (v := .ty "int") rfl) pa_nil))) (pe_one (pe_not (pe_callB (k_isi (K := K) rfl) (by rfl) T.z_isinstance (by decide +kernel) (pa_cons (pv 0) (pa_cons (pe_bltn (by rfl) T.z_bool (by decide +kernel) (v := .ty "bool") rfl) pa_nil)))))))), ?_⟩
  refine w_start (σ := [some _]) rfl ?_
  walk_at "go"
  refine w_isiII ?_
  walk_at "go"
  rw [if_pos rfl]
  walk_at "go"
  refine w_isiIB ?_
  exact ⟨_, rfl, q⟩
abbrev s__law_same : Stmt := topS 14
theorem sc__law_same : FnScope ["told", "due", "k"] ["told", "due"] (defScope s__law_same) := ⟨rfl, rfl, rfl, by decide +kernel, rfl, by decide +kernel, by decide +kernel⟩
def sp__law_same (K : PySem.W.Frag) : Sp := fun vs H Q _ => ∃ (a b : Addr) (p r : List Int), vs = [.ref a, .ref b] ∧ SqT K H a (ivs p) ∧ SqT K H b (ivs r) ∧ p.length ≤ 1000 ∧ r.length ≤ 1000 ∧ Q (.bl (decide (p = r))) H
theorem same_first {p r : List Int} (h : p.length = r.length) (e : p.take r.length = r.take r.length) : p = r := by
  rw [List.take_length, ← h, List.take_length] at e
  exact e
theorem take_step {p r : List Int} {i : Nat} (hp : i < p.length) (hr : i < r.length) (e : p.take i = r.take i) (c : coef p i = coef r i) : p.take (i + 1) = r.take (i + 1) := by
  rw [List.take_add_one, List.take_add_one, e, get_coef hp, get_coef hr, c]
theorem c__law_same (T : Txt mg) (C__law_is_integer : Cal P w K mg base 1 "_law_is_integer" sp__law_is_integer) {f : Addr} {fd : FuncData} (F : DefF K mg "_law_same" s__law_same ["told", "due"] f fd) : Cal P w K mg base 2 "_law_same" (sp__law_same K) := by
  refine cal_of F sc__law_same (fun vs H Q E h => by obtain ⟨_, _, _, _, rfl, _⟩ := h; rfl) (fun cdv A outer s H vs Q E hr h => ?_)
  obtain ⟨a, b, p, r, rfl, hp, hq, lp, lr, q⟩ := h
  refine ⟨_, (pss_cons (ps_if (PW.pt (pw_or (pt_not (pt_val (pe_callB (k_isi (K := K) rfl) (by rfl) T.z_isinstance (by decide +kernel) (pa_cons (pv 0) (pa_cons (pe_bltn (by rfl) T.z_tuple (by decide +kernel) (v := .ty "tuple") rfl) pa_nil))))) (pw_or1 (pt_cmpR op_ne (pe_callB (k_len (K := K) rfl) (by rfl) T.z_len PySem.boot_len (pa_cons (pv 0) pa_nil)) (pe_callB (k_len (K := K) rfl) (by rfl) T.z_len PySem.boot_len (pa_cons (pv 1) pa_nil)) (nomark _))))) (pss_one (ps_ret pe_bl)) pss_nil)
 (pss_cons (ps_for PassesOwn.never rfl (pi_range1 (by rfl) T.z_range (pa_cons (pe_callB (k_len (K := K) rfl) (by rfl) T.z_len PySem.boot_len (pa_cons (pv 1) pa_nil)) pa_nil)) (pg_name (i := 2) sc__law_same.nd rfl (Or.inl rfl)) (pss_one (ps_if (PW.pt (pw_or (pt_not (pt_val (pe_cc C__law_is_integer hr (by decide) (by rfl) (pa_cons (pe_ix (k_ixT (K := K) rfl) (pv 0) (pv 2) (fun _ _ => rfl)) pa_nil)))) (pw_or1 (pt_cmpR op_ne (pe_ix (k_ixT (K := K) rfl) (pv 0) (pv 2) (fun _ _ => rfl)) (pe_ix (k_ixT (K := K) rfl) (pv 1) (pv 2) (fun _ _ => rfl)) (nomark _))))) (pss_one (ps_ret pe_bl)) pss_nil)))
 (pss_one (ps_ret pe_bl)))), ?_⟩
  refine w_start (σ := [some _, some _, none]) rfl ?_
  walk_at "go"
  refine w_isiTT hp ?_
  walk_at "go"
  rw [if_neg (by decide)]
  walk_at "go"
  refine w_lenTi hp ?_
  walk_at "go"
  refine w_lenTi hq ?_
  walk_at "go"
  refine ite_nd (fun h0 => ?_) (fun h0 => ?_)
  · have e : p ≠ r := fun e => h0 (by rw [e])
    rw [decide_eq_false e] at q
    exact q
  have h1 : p.length = r.length := by omega
  walk_at "go"
  refine w_lenTi hq ?_
  walk_at "go"
  refine w_iR1r (by omega) (by omega) ?_
  refine for_R (n := r.length) (fun i σ H' => H' = H ∧ p.take i = r.take i ∧ ∃ z, σ = [some (.ref a), some (.ref b), z]) ⟨rfl, rfl, none, rfl⟩ ?_ ?_
  · rintro i σ H' hi ⟨rfl, e, z, rfl⟩
    walk_at "go"
    refine w_ixTi (k := i) hp (by omega) (get_coef (by omega)) ?_
    walk_at "go"
    refine ⟨_, rfl, ?_⟩
    walk_at "go"
    rw [if_neg (by decide)]
    walk_at "go"
    refine w_ixTi (k := i) hp (by omega) (get_coef (by omega)) ?_
    walk_at "go"
    refine w_ixTi (k := i) hq (by omega) (get_coef hi) ?_
    walk_at "go"
    refine ite_nd (fun h2 => ?_) (fun h2 => ?_)
    · have e : p ≠ r := fun e => h2 (by rw [e])
      rw [decide_eq_false e] at q
      exact q
    · exact ⟨rfl, take_step (by omega) hi e h2, _, rfl⟩
  · rintro σ H' ⟨rfl, e, z, rfl⟩
    rw [decide_eq_true (same_first h1 e)] at q
    exact q
theorem h__law_same (T : Txt mg) (H__law_is_integer : CalH P w K mg base 1 "_law_is_integer" sp__law_is_integer) {f : Addr} {fd : FuncData} (F : DefF K mg "_law_same" s__law_same ["told", "due"] f fd) : CalH P w K mg base 2 "_law_same" (sp__law_same K) := by
  refine cal_ofH F sc__law_same (fun vs H Q E h => by obtain ⟨_, _, _, _, rfl, _⟩ := h; rfl) (fun cdv A outer s H vs Q E pp hot hr h => ?_)
  obtain ⟨a, b, p, r, rfl, hp, hq, lp, lr, q⟩ := h
  have hc : L2H.HotC (L2H.cxH (L2.CX P w) P w K mg base ["told", "due", "k"] "_law_same" (defScope s__law_same) f cdv A outer s H E pp).nox := ⟨pp, ⟨hot.1, hot.2⟩, List.mem_singleton.mpr rfl⟩
  refine ⟨_, (pss_cons (ps_if (PW.pt (pw_or (pt_not (pt_val (pe_callB (k_isi (K := K) rfl) (by rfl) T.z_isinstance (by decide +kernel) (pa_cons (pv 0) (pa_cons (pe_bltn (by rfl) T.z_tuple (by decide +kernel) (v := .ty "tuple") rfl) pa_nil))))) (pw_or1 (pt_cmpR op_ne (pe_callB (k_len (K := K) rfl) (by rfl) T.z_len PySem.boot_len (pa_cons (pv 0) pa_nil)) (pe_callB (k_len (K := K) rfl) (by rfl) T.z_len PySem.boot_len (pa_cons (pv 1) pa_nil)) (nomark _))))) (pss_one (ps_ret pe_bl)) pss_nil)
 (pss_cons (L2H.ps_forH PassesOwn.never hc (L2H.pi_range1H (by rfl) T.z_range (pa_cons (pe_callB (k_len (K := K) rfl) (by rfl) T.z_len PySem.boot_len (pa_cons (pv 1) pa_nil)) pa_nil)) (pg_name (i := 2) sc__law_same.nd rfl (Or.inl rfl)) (pss_one (ps_if (PW.pt (pw_or (pt_not (pt_val (pe_ccH H__law_is_integer hr (by decide) hc (by rfl) (pa_cons (pe_ix (k_ixT (K := K) rfl) (pv 0) (pv 2) (fun _ _ => rfl)) pa_nil)))) (pw_or1 (pt_cmpR op_ne (pe_ix (k_ixT (K := K) rfl) (pv 0) (pv 2) (fun _ _ => rfl)) (pe_ix (k_ixT (K := K) rfl) (pv 1) (pv 2) (fun _ _ => rfl)) (nomark _))))) (pss_one (ps_ret pe_bl)) pss_nil)))
 (pss_one (ps_ret pe_bl)))), ?_⟩
  refine w_start (σ := [some _, some _, none]) rfl ?_
  walk_at "go"
  refine w_isiTT hp ?_
  walk_at "go"
  rw [if_neg (by decide)]
  walk_at "go"
  refine w_lenTi hp ?_
  walk_at "go"
  refine w_lenTi hq ?_
  walk_at "go"
  refine ite_nd (fun h0 => ?_) (fun h0 => ?_)
  · have e : p ≠ r := fun e => h0 (by rw [e])
    rw [decide_eq_false e] at q
    exact q
  have h1 : p.length = r.length := by omega
  walk_at "go"
  refine w_lenTi hq ?_
  walk_at "go"
  refine w_iR1r (by omega) (by omega) ?_
  refine for_R (n := r.length) (fun i σ H' => H' = H ∧ p.take i = r.take i ∧ ∃ z, σ = [some (.ref a), some (.ref b), z]) ⟨rfl, rfl, none, rfl⟩ ?_ ?_
  · rintro i σ H' hi ⟨rfl, e, z, rfl⟩
    walk_at "go"
    refine w_callS ?_
    walk_at "go"
    refine w_ixTi (k := i) hp (by omega) (get_coef (by omega)) ?_
    walk_at "go"
    refine ⟨_, rfl, ?_⟩
    walk_at "go"
    rw [if_neg (by decide)]
    walk_at "go"
    refine w_ixTi (k := i) hp (by omega) (get_coef (by omega)) ?_
    walk_at "go"
    refine w_ixTi (k := i) hq (by omega) (get_coef hi) ?_
    walk_at "go"
    refine ite_nd (fun h2 => ?_) (fun h2 => ?_)
    · have e : p ≠ r := fun e => h2 (by rw [e])
      rw [decide_eq_false e] at q
      exact q
    · exact ⟨rfl, take_step (by omega) hi e h2, _, rfl⟩
  · rintro σ H' ⟨rfl, e, z, rfl⟩
    rw [decide_eq_true (same_first h1 e)] at q
    exact q
end
end My

namespace My
open PySem PySem.Spec PyProof.Rows L2
section
variable {P : Program} {w : World} {K : PySem.W.Frag} {mg : Str → Option Value} {base : Heap}
/-! ### the box -/
abbrev s__law_cell : Stmt := topS 15
theorem sc__law_cell : FnScope ["script", "k", "total", "cell"] ["script", "k"] (defScope s__law_cell) := ⟨rfl, rfl, rfl, by decide +kernel, rfl, by decide +kernel, by decide +kernel⟩
def sp__law_cell (K : PySem.W.Frag) : Sp := fun vs H Q _ => ∃ (a : Addr) (ns : List Int) (k : Int), vs = [.ref a, .int k] ∧ SqL K H a (ivs ns) ∧ 0 ≤ k ∧ ns.length < 100000 ∧ ∀ (z : Int) H', Ch [] H H' → Q (.int z) H'
theorem w_chop {H : Hp} {Q : VK} {a : Addr} {xs : List V} {lo hi : Option Int} (h : SqL K H a xs) (q : ∀ p H', H p = none → Ch [] H H' → H' p = some (.lst (cutV xs lo hi)) → Q (.ref p) H') : rSlL K (.ref a) lo hi H Q := w_slL h q
theorem cut_ints {ns : List Int} {lo hi : Option Int} : ∃ ms : List Int, cutV (ivs ns) lo hi = ivs ms ∧ ms.length ≤ ns.length := by
  unfold cutV
  exact ⟨((ns.drop _).take _), by rw [ivs, ivs, List.map_take, List.map_drop], by rw [List.length_take, List.length_drop]; omega⟩
theorem c__law_cell (T : Txt mg) {f : Addr} {fd : FuncData} (F : DefF K mg "_law_cell" s__law_cell ["script", "k"] f fd) : Cal P w K mg base 1 "_law_cell" (sp__law_cell K) := by
  refine cal_of F sc__law_cell (fun vs H Q E h => by obtain ⟨_, _, _, rfl, _⟩ := h; rfl) (fun cdv A outer s H vs Q E hr h => ?_)
  obtain ⟨a, ns, k, rfl, hs, hk, hl, q⟩ := h
  refine ⟨_, (pss_cons (ps_if (pt_cmpR op_lt (pv 1) (pe_callB (k_len (K := K) rfl) (by rfl) T.z_len PySem.boot_len (pa_cons (pv 0) pa_nil)) (nomark _)) (pss_one (ps_ret (pe_callTy cb_int (by rfl) T.z_int (by decide +kernel) (pa_cons (pe_ix (k_ixL (K := K) rfl) (pv 0) (pv 1) (fun _ _ => rfl)) pa_nil)))) pss_nil)
 (pss_cons (ps_set (i := 2) sc__law_cell.nd rfl (Or.inl rfl) pe_int)
 (pss_cons (ps_for PassesOwn.never rfl (k_piL (K := K) rfl (pe_slice (k_slL (K := K) rfl) (pv 0) po_none (po_some pe_int))) (pg_name (i := 3) sc__law_cell.nd rfl (Or.inl rfl)) (pss_one (ps_set (i := 2) sc__law_cell.nd rfl (Or.inl rfl) (pe_op op_mod (pe_callTy cb_int (by rfl) T.z_int (by decide +kernel) (pa_cons (pe_op op_add (pe_op op_mulG (pv 2) pe_int) (pe_callTy cb_int (by rfl) T.z_int (by decide +kernel) (pa_cons (pv 3) pa_nil))) pa_nil)) pe_int))))
 (pss_one (ps_ret (pe_op op_mod (pe_callTy cb_int (by rfl) T.z_int (by decide +kernel) (pa_cons (pe_op op_add (pe_op op_add (pe_op op_mulG (pv 2) pe_int) (pe_op op_mulG (pv 1) pe_int)) pe_int) pa_nil)) pe_int)))))), ?_⟩
  refine w_start (σ := [some _, some _, none, none]) rfl ?_
  walk_at "go"
  refine w_lenL hs ?_
  rw [List.length_map]
  walk_at "go"
  refine ite_d (fun h0 => ?_) (fun h0 => ?_)
  · walk_at "go"
    refine w_ixL hs (atI_int (i := k.toNat) (by omega) (get_coef (by omega))) ?_
    walk_at "go"
    exact q _ _ .refl
  · walk_at "go"
    obtain ⟨ms, em, lm⟩ := cut_ints (ns := ns) (lo := none) (hi := some 63)
    refine w_slL hs fun s1 H1 n1 c1 h1 => ?_
    rw [em] at h1
    walk_at "go"
    refine w_iLr (.of h1) ?_
    have wk : Walk (Itl K s1) ms.length (fun H => SqL K H s1 (ivs ms)) (YAt (ivs ms)) := by
      have q := walk_list (K := K) (a := s1) (xs := ivs ms)
      rw [List.length_map] at q
      exact q
    refine for_w wk (fun i σ H' => H' = H1 ∧ ∃ (t : Int) (z : Option V), σ = [some (.ref a), some (.int k), some (.int t), z]) ⟨rfl, 0, none, rfl⟩ (fun i σ H' _ h => by rw [h.1]; exact .of h1) ?_ ?_
    · rintro i σ H2 x H3 hi ⟨rfl, t, z, rfl⟩ y
      obtain ⟨e, hx⟩ := y
      subst e
      obtain ⟨v, hv, rfl⟩ := ivs_get_inv hx
      walk_at "go"
      exact ⟨rfl, _, _, rfl⟩
    · rintro σ H2 ⟨rfl, t, z, rfl⟩
      walk_at "go"
      exact q _ _ c1
abbrev s__law_box : Stmt := topS 16
theorem sc__law_box : FnScope ["script", "k", "cell"] ["script", "k"] (defScope s__law_box) := ⟨rfl, rfl, rfl, by decide +kernel, rfl, by decide +kernel, by decide +kernel⟩
def sp__law_box (K : PySem.W.Frag) : Sp := fun vs H Q _ => ∃ (a : Addr) (ns : List Int) (k : Int), vs = [.ref a, .int k] ∧ SqL K H a (ivs ns) ∧ 0 ≤ k ∧ ns.length < 100000 ∧ ∀ b H', H b = none → Ch [] H H' → RB H' b → Q (.ref b) H'
theorem c__law_box (T : Txt mg) (C__law_cell : Cal P w K mg base 1 "_law_cell" (sp__law_cell K)) {f : Addr} {fd : FuncData} (F : DefF K mg "_law_box" s__law_box ["script", "k"] f fd) : Cal P w K mg base 2 "_law_box" (sp__law_box K) := by
  refine cal_of F sc__law_box (fun vs H Q E h => by obtain ⟨_, _, _, rfl, _⟩ := h; rfl) (fun cdv A outer s H vs Q E hr h => ?_)
  obtain ⟨a, ns, k, rfl, hs, hk, hl, q⟩ := h
  refine ⟨_, (pss_cons (ps_set (i := 2) sc__law_box.nd rfl (Or.inl rfl) (pe_cc C__law_cell hr (by decide) (by rfl) (pa_cons (pv 0) (pa_cons (pv 1) pa_nil))))
 (pss_one (ps_ret (pe_lst (pa_cons (pe_op op_mod (pe_callTy cb_int (by rfl) T.z_int (by decide +kernel) (pa_cons (pv 2) pa_nil)) (pe_op op_powG (pe_op op_pow pe_int pe_int) pe_int)) (pa_cons (pe_callTy cb_int (by rfl) T.z_int (by decide +kernel) (pa_cons (pe_cmpR op_ge (pv 2) (pe_op op_pow pe_int pe_int) (nomark _)) pa_nil)) (pa_cons (pe_op op_mod (pe_callTy cb_int (by rfl) T.z_int (by decide +kernel) (pa_cons (pv 2) pa_nil)) pe_int) (pa_cons pe_int pa_nil)))))))), ?_⟩
  refine w_start (σ := [some _, some _, none]) rfl ?_
  walk_at "go"
  refine ⟨a, ns, k, rfl, hs, hk, hl, fun z H1 c1 => ?_⟩
  walk_at "go"
  refine w_I (show CPowG _ _ from ⟨by decide, by decide +kernel⟩) ?_
  refine w_mod (by decide +kernel) ?_
  walk_at "go"
  refine w_newL (show 4 ≤ sizeLine by decide) fun b H2 n2 c2 h2 => ?_
  exact q b H2 (c1.free n2) (c1.trans c2) ⟨_, _, _, _, h2⟩
abbrev s__law_take : Stmt := topS 17
theorem sc__law_take : FnScope ["box", "many", "digit", "one", "two"] ["box", "many"] (defScope s__law_take) := ⟨rfl, rfl, rfl, by decide +kernel, rfl, by decide +kernel, by decide +kernel⟩
def sp__law_take : Sp := fun vs H Q _ => ∃ (b : Addr) (m : Int), vs = [.ref b, .int m] ∧ RB H b ∧ 0 < m ∧ m.natAbs < 2 ^ 9000 ∧ ∀ (r : Int) H', 0 ≤ r → r < m → Ch [b] H H' → RB H' b → Q (.int r) H'
theorem c__law_take (T : Txt mg) {f : Addr} {fd : FuncData} (F : DefF K mg "_law_take" s__law_take ["box", "many"] f fd) : Cal P w K mg base 1 "_law_take" sp__law_take := by
  refine cal_of F sc__law_take (fun vs H Q E h => by obtain ⟨_, _, rfl, _⟩ := h; rfl) (fun cdv A outer s H vs Q E hr h => ?_)
  obtain ⟨b, m, rfl, ⟨x, y, z, t, hb⟩, m0, mb, q⟩ := h
  refine ⟨_, (pss_cons (ps_asg (pe_op op_add (pe_ix (k_ixL (K := K) rfl) (pv 0) pe_int (fun _ _ => rfl)) pe_int) (pg_sub (pv 0) pe_int set_list))
 (pss_cons (ps_if (PW.pt (pw_and (pt_cmpR op_eq (pe_ix (k_ixL (K := K) rfl) (pv 0) pe_int (fun _ _ => rfl)) pe_int (nomark _)) (pw_and1 (pt_cmpR op_gt (pe_ix (k_ixL (K := K) rfl) (pv 0) pe_int (fun _ _ => rfl)) pe_int (nomark _))))) (pss_cons (ps_set (i := 2) sc__law_take.nd rfl (Or.inl rfl) (pe_op op_mod (pe_callTy cb_int (by rfl) T.z_int (by decide +kernel) (pa_cons (pe_ix (k_ixL (K := K) rfl) (pv 0) pe_int (fun _ _ => rfl)) pa_nil)) (pv 1)))
 (pss_cons (ps_asg (pe_op op_fdivG (pe_ix (k_ixL (K := K) rfl) (pv 0) pe_int (fun _ _ => rfl)) (pv 1)) (pg_sub (pv 0) pe_int set_list))
 (pss_one (ps_ret (pv 2))))) pss_nil)
 (pss_cons (ps_set (i := 3) sc__law_take.nd rfl (Or.inl rfl) (pe_op op_mod (pe_callTy cb_int (by rfl) T.z_int (by decide +kernel) (pa_cons (pe_op op_add (pe_op op_add (pe_op op_mulG (pe_ix (k_ixL (K := K) rfl) (pv 0) pe_int (fun _ _ => rfl)) pe_int) (pe_op op_mulG (pe_ix (k_ixL (K := K) rfl) (pv 0) pe_int (fun _ _ => rfl)) pe_int)) pe_int) pa_nil)) pe_int))
 (pss_cons (ps_set (i := 4) sc__law_take.nd rfl (Or.inl rfl) (pe_op op_mod (pe_callTy cb_int (by rfl) T.z_int (by decide +kernel) (pa_cons (pe_op op_add (pe_op op_add (pe_op op_mulG (pv 3) (pv 3)) (pe_op op_mulG (pv 3) pe_int)) (pe_op op_mulG (pe_ix (k_ixL (K := K) rfl) (pv 0) pe_int (fun _ _ => rfl)) pe_int)) pa_nil)) pe_int))
 (pss_one (ps_ret (pe_op op_mod (pe_callTy cb_int (by rfl) T.z_int (by decide +kernel) (pa_cons (pe_op op_fdiv (pv 4) pe_int) pa_nil)) (pv 1)))))))), ?_⟩
  refine w_start (σ := [some _, some _, none, none, none]) rfl ?_
  walk_at "go"
  refine w_setL (k := 3) hb rfl (show 3 < 4 by decide) fun H1 c1 h1 => ?_
  have h1 : H1 b = some (.lst [.int x, .int y, .int z, .int (t + 1)]) := h1
  have rest : ∀ r : Int, 0 ≤ r % m ∧ r % m < m := fun r => ⟨Int.emod_nonneg _ (by omega), Int.emod_lt_of_pos _ m0⟩
  have fin : ∀ (u v : Int), Q (.int (u % m)) H1 := fun u v => q _ _ (rest u).1 (rest u).2 c1 ⟨_, _, _, _, h1⟩
  have mul1 : ∀ u : Int, IntMulOk (u % 2147483647) (u % 2147483647) := fun u => mul_ok_l (by
    have a1 := Int.emod_nonneg u (show (2147483647 : Int) ≠ 0 by decide)
    have a2 := Int.emod_lt_of_pos u (show (0 : Int) < 2147483647 by decide)
    omega)
  walk_at "go"
  refine ite_d (fun h0 => ?_) (fun h0 => ?_)
  · walk_at "go"
    refine ite_d (fun h2 => ?_) (fun h2 => ?_)
    · walk_at "go"
      refine w_mod m0 ?_
      walk_at "go"
      refine w_I (div_ok (by omega) mb (by decide)) ?_
      walk_at "go"
      refine w_setL (k := 0) h1 rfl (show 0 < 4 by decide) fun H2 c2 h2 => ?_
      walk_at "go"
      exact q _ _ (rest x).1 (rest x).2 (c1.trans c2) ⟨_, _, _, _, h2⟩
    · walk_at "go"
      refine w_I (mul1 _) ?_
      walk_at "go"
      refine w_mod m0 ?_
      exact fin _ 0
  · rw [if_neg (by decide)]
    walk_at "go"
    refine w_I (mul1 _) ?_
    walk_at "go"
    refine w_mod m0 ?_
    exact fin _ 0
abbrev s__law_turned : Stmt := topS 18
theorem sc__law_turned : FnScope ["box", "number"] ["box", "number"] (defScope s__law_turned) := ⟨rfl, rfl, rfl, by decide +kernel, rfl, by decide +kernel, by decide +kernel⟩
def sp__law_turned : Sp := fun vs H Q _ => ∃ (b : Addr) (n : Int), vs = [.ref b, .int n] ∧ RB H b ∧ ∀ (r : Int) H', r = n ∨ r = -n → Ch [b] H H' → RB H' b → Q (.int r) H'
theorem c__law_turned (C__law_take : Cal P w K mg base 1 "_law_take" sp__law_take) {f : Addr} {fd : FuncData} (F : DefF K mg "_law_turned" s__law_turned ["box", "number"] f fd) : Cal P w K mg base 2 "_law_turned" sp__law_turned := by
  refine cal_of F sc__law_turned (fun vs H Q E h => by obtain ⟨_, _, rfl, _⟩ := h; rfl) (fun cdv A outer s H vs Q E hr h => ?_)
  obtain ⟨b, n, rfl, B, q⟩ := h
  refine ⟨_, (pss_cons (ps_if (pt_cmpR op_eq (pe_cc C__law_take hr (by decide) (by rfl) (pa_cons (pv 0) (pa_cons pe_int pa_nil))) pe_int (nomark _)) (pss_one (ps_ret (pe_un un_neg (pv 1)))) pss_nil)
 (pss_one (ps_ret (pv 1)))), ?_⟩
  refine w_start (σ := [some _, some _]) rfl ?_
  walk_at "go"
  refine ⟨b, 2, rfl, B, by decide, by decide +kernel, fun r H1 r0 r1 c1 B1 => ?_⟩
  walk_at "go"
  refine ite_d (fun h => ?_) (fun h => ?_)
  · walk_at "go"
    exact q _ _ (.inr rfl) c1 B1
  · walk_at "go"
    exact q _ _ (.inl rfl) c1 B1
abbrev s__law_power : Stmt := topS 19
theorem sc__law_power : FnScope ["root", "count", "number", "turn"] ["root", "count"] (defScope s__law_power) := ⟨rfl, rfl, rfl, by decide +kernel, rfl, by decide +kernel, by decide +kernel⟩
def sp__law_power : Sp := fun vs H Q _ => ∃ (r : Int) (n : Int) (z : Nat), vs = [.int r, .int n] ∧ r.natAbs < 2 ^ z ∧ z ≤ 60 ∧ 0 ≤ n ∧ n ≤ 1000 ∧ Q (.int (r ^ n.toNat)) H
theorem c__law_power (T : Txt mg) {f : Addr} {fd : FuncData} (F : DefF K mg "_law_power" s__law_power ["root", "count"] f fd) : Cal P w K mg base 1 "_law_power" sp__law_power := by
  refine cal_of F sc__law_power (fun vs H Q E h => by obtain ⟨_, _, _, rfl, _⟩ := h; rfl) (fun cdv A outer s H vs Q E hr h => ?_)
  obtain ⟨r, n, z, rfl, hr', hz, n0, n1, q⟩ := h
  refine ⟨_, (pss_cons (ps_set (i := 2) sc__law_power.nd rfl (Or.inl rfl) pe_int)
 (pss_cons (ps_for PassesOwn.never rfl (pi_range1 (by rfl) T.z_range (pa_cons (pv 1) pa_nil)) (pg_name (i := 3) sc__law_power.nd rfl (Or.inl rfl)) (pss_one (ps_set (i := 2) sc__law_power.nd rfl (Or.inl rfl) (pe_op op_mulG (pv 2) (pv 0)))))
 (pss_one (ps_ret (pv 2))))), ?_⟩
  refine w_start (σ := [some _, some _, none, none]) rfl ?_
  walk_at "go"
  refine w_iR1r (by omega) (by omega) ?_
  refine for_R (n := n.toNat) (fun i σ H' => H' = H ∧ ∃ y, σ = [some (.int r), some (.int n), some (.int (r ^ i)), y]) ⟨rfl, none, by rw [Int.pow_zero]; rfl⟩ ?_ ?_
  · rintro i σ H' hi ⟨rfl, y, rfl⟩
    walk_at "go"
    refine w_I (mul_ok_r (Nat.lt_of_lt_of_le hr' (Nat.pow_le_pow_right (by decide) (by omega)))) ?_
    exact ⟨rfl, _, by rw [Int.pow_succ]; rfl⟩
  · rintro σ H' ⟨rfl, y, rfl⟩
    exact ⟨_, rfl, q⟩
abbrev s__law_limbs : Stmt := topS 20
theorem sc__law_limbs : FnScope ["box", "count", "number", "turn"] ["box", "count"] (defScope s__law_limbs) := ⟨rfl, rfl, rfl, by decide +kernel, rfl, by decide +kernel, by decide +kernel⟩
def sp__law_limbs : Sp := fun vs H Q _ => ∃ (b : Addr) (n : Int), vs = [.ref b, .int n] ∧ RB H b ∧ 0 ≤ n ∧ n ≤ 20 ∧ ∀ (r : Int) H', 0 ≤ r → r < 100000 ^ n.toNat → Ch [b] H H' → RB H' b → Q (.int r) H'
theorem c__law_limbs (T : Txt mg) (C__law_take : Cal P w K mg base 1 "_law_take" sp__law_take) {f : Addr} {fd : FuncData} (F : DefF K mg "_law_limbs" s__law_limbs ["box", "count"] f fd) : Cal P w K mg base 2 "_law_limbs" sp__law_limbs := by
  refine cal_of F sc__law_limbs (fun vs H Q E h => by obtain ⟨_, _, rfl, _⟩ := h; rfl) (fun cdv A outer s H vs Q E hr h => ?_)
  obtain ⟨b, n, rfl, B, n0, n1, q⟩ := h
  refine ⟨_, (pss_cons (ps_set (i := 2) sc__law_limbs.nd rfl (Or.inl rfl) pe_int)
 (pss_cons (ps_for PassesOwn.never rfl (pi_range1 (by rfl) T.z_range (pa_cons (pv 1) pa_nil)) (pg_name (i := 3) sc__law_limbs.nd rfl (Or.inl rfl)) (pss_one (ps_set (i := 2) sc__law_limbs.nd rfl (Or.inl rfl) (pe_op op_add (pe_op op_mulG (pv 2) pe_int) (pe_cc C__law_take hr (by decide) (by rfl) (pa_cons (pv 0) (pa_cons pe_int pa_nil)))))))
 (pss_one (ps_ret (pv 2))))), ?_⟩
  refine w_start (σ := [some _, some _, none, none]) rfl ?_
  walk_at "go"
  refine w_iR1r (by omega) (by omega) ?_
  refine for_R (n := n.toNat) (fun i σ H' => Ch [b] H H' ∧ RB H' b ∧ ∃ (v : Int) (y : Option V), σ = [some (.ref b), some (.int n), some (.int v), y] ∧ 0 ≤ v ∧ v < 100000 ^ i) ⟨.refl, B, 0, none, rfl, by decide, by decide⟩ ?_ ?_
  · rintro i σ H' hi ⟨c1, B1, v, y, rfl, v0, v1⟩
    walk_at "go"
    refine ⟨b, 100000, rfl, B1, by decide, by decide +kernel, fun r H2 r0 r1 c2 B2 => ?_⟩
    walk_at "go"
    refine ⟨c1.trans c2, B2, _, _, rfl, by omega, ?_⟩
    rw [Int.pow_succ]
    omega
  · rintro σ H' ⟨c1, B1, v, y, rfl, v0, v1⟩
    walk_at "go"
    exact q _ _ v0 v1 c1 B1
end
end My

namespace My
open PySem PySem.Spec PyProof.Rows L2
/-! ### lowest terms, in plain numbers -/
structure Low (t b n d : Int) : Prop where
  pos : 0 < d
  cop : Nat.gcd n.natAbs d.natAbs = 1
  eq : n * b = d * t
  ln : n.natAbs ≤ t.natAbs
  ld : d.natAbs ≤ b.natAbs
theorem low_of {t b s : Int} {g : Nat} (hs : s = 1 ∨ s = -1) (hb : 0 < s * b) (hg : g = Nat.gcd t.natAbs b.natAbs) : Low t b ((s * t).fdiv g) ((s * b).fdiv g) := by
  have b0 : b ≠ 0 := fun e => by rw [e, Int.mul_zero] at hb; omega
  have g0 : 0 < g := by
    rw [hg]
    exact Nat.gcd_pos_of_pos_right _ (by omega)
  have dt : (g : Int) ∣ t := Int.ofNat_dvd_left.mpr (by rw [hg]; exact Nat.gcd_dvd_left _ _)
  have db : (g : Int) ∣ b := Int.ofNat_dvd_left.mpr (by rw [hg]; exact Nat.gcd_dvd_right _ _)
  obtain ⟨t', et⟩ := dt
  obtain ⟨b', eb⟩ := db
  have gne : (g : Int) ≠ 0 := by omega
  have e1 : (s * t).fdiv g = s * t' := by
    rw [et, Int.mul_left_comm]
    exact Int.mul_fdiv_cancel_left _ gne
  have e2 : (s * b).fdiv g = s * b' := by
    rw [eb, Int.mul_left_comm]
    exact Int.mul_fdiv_cancel_left _ gne
  rw [e1, e2]
  have at' : t.natAbs = g * t'.natAbs := by rw [et, Int.natAbs_mul, Int.natAbs_natCast]
  have ab' : b.natAbs = g * b'.natAbs := by rw [eb, Int.natAbs_mul, Int.natAbs_natCast]
  have sa : ∀ x : Int, (s * x).natAbs = x.natAbs := fun x => by
    rcases hs with e | e <;> rw [e] <;> omega
  refine ⟨?_, ?_, ?_, ?_, ?_⟩
  · rw [eb, Int.mul_left_comm] at hb
    by_cases c : 0 < s * b'
    · exact c
    · exfalso
      have := Int.mul_le_mul_of_nonneg_left (show s * b' ≤ 0 by omega) (show (0 : Int) ≤ g by omega)
      rw [Int.mul_zero] at this
      omega
  · rw [sa, sa]
    rw [at', ab', Nat.gcd_mul_left] at hg
    exact Nat.eq_of_mul_eq_mul_left g0 (by omega)
  · rw [et, eb]
    simp only [Int.mul_assoc, Int.mul_left_comm, Int.mul_comm]
  · rw [sa, at']
    exact Nat.le_mul_of_pos_left _ g0
  · rw [sa, ab']
    exact Nat.le_mul_of_pos_left _ g0
/-- what the law's numbers are -/
structure Num (n d : Int) : Prop where
  pos : 0 < d
  cop : Nat.gcd n.natAbs d.natAbs = 1
  bn : n.natAbs < 2 ^ 300
  bd : d.natAbs < 2 ^ 300
theorem Low.num {t b n d : Int} (h : Low t b n d) (ht : t.natAbs < 2 ^ 300) (hb : b.natAbs < 2 ^ 300) : Num n d := ⟨h.pos, h.cop, Nat.lt_of_le_of_lt h.ln ht, Nat.lt_of_le_of_lt h.ld hb⟩
section
variable {P : Program} {w : World} {K : PySem.W.Frag} {mg : Str → Option Value} {base : Heap}
abbrev s__law_gcd : Stmt := topS 22
theorem sc__law_gcd : FnScope ["one", "two", "left", "right", "turn"] ["one", "two"] (defScope s__law_gcd) := ⟨rfl, rfl, rfl, by decide +kernel, rfl, by decide +kernel, by decide +kernel⟩
def sp__law_gcd : Sp := fun vs H Q _ => ∃ (a b : Int), vs = [.int a, .int b] ∧ b.natAbs < 2 ^ 1998 ∧ Q (.int (Nat.gcd a.natAbs b.natAbs : Nat)) H
theorem c__law_gcd (T : Txt mg) {f : Addr} {fd : FuncData} (F : DefF K mg "_law_gcd" s__law_gcd ["one", "two"] f fd) : Cal P w K mg base 1 "_law_gcd" sp__law_gcd := by
  refine cal_of F sc__law_gcd (fun vs H Q E h => by obtain ⟨_, _, rfl, _⟩ := h; rfl) (fun cdv A outer s H vs Q E hr h => ?_)
  obtain ⟨a, b, rfl, hb, q⟩ := h
  refine ⟨_, (pss_cons (ps_set (i := 2) sc__law_gcd.nd rfl (Or.inl rfl) (pe_callB cb_abs (by rfl) T.z_abs (by decide +kernel) (pa_cons (pv 0) pa_nil)))
 (pss_cons (ps_set (i := 3) sc__law_gcd.nd rfl (Or.inl rfl) (pe_callB cb_abs (by rfl) T.z_abs (by decide +kernel) (pa_cons (pv 1) pa_nil)))
 (pss_cons (ps_for PassesOwn.never rfl (pi_range1 (by rfl) T.z_range (pa_cons pe_int pa_nil)) (pg_name (i := 4) sc__law_gcd.nd rfl (Or.inl rfl)) (pss_cons (ps_if (pt_cmpR op_eq (pv 3) pe_int (nomark _)) (pss_one ps_break) pss_nil)
 (pss_one (ps_par (i := 2) (j := 3) (by rfl) sc__law_gcd.nd rfl rfl (by decide) rfl rfl (pa_cons (pv 3) (pa_cons (pe_op op_mod (pe_callTy cb_int (by rfl) T.z_int (by decide +kernel) (pa_cons (pv 2) pa_nil)) (pv 3)) pa_nil)) (by rfl)))))
 (pss_one (ps_ret (pv 2)))))), ?_⟩
  refine w_start (σ := [some _, some _, none, none, none]) rfl ?_
  walk_at "go"
  refine w_iR1r (by omega) (by omega) ?_
  have done : ∀ (x : Nat) (z : Option V), Nat.gcd x 0 = Nat.gcd a.natAbs b.natAbs → Q (.int x) H := fun x z h => by
    rw [Nat.gcd_zero_right] at h
    rw [h]
    exact q
  refine for_R (n := 4000) (fun i σ H' => H' = H ∧ ∃ (x y : Nat) (z : Option V), σ = [some (.int a), some (.int b), some (.int x), some (.int y), z] ∧ Nat.gcd x y = Nat.gcd a.natAbs b.natAbs ∧ Euc 1998 i x y) ⟨rfl, _, _, none, rfl, rfl, fun _ => by simpa using hb, fun h => by omega⟩ ?_ ?_
  · rintro i σ H' hi ⟨rfl, x, y, z, rfl, hg, eu⟩
    walk_at "go"
    refine ite_d (fun h0 => ?_) (fun h0 => ?_)
    · have hy : y = 0 := by omega
      subst hy
      walk_at "go"
      exact done x z hg
    · walk_at "go"
      refine w_mod (by omega) ?_
      walk_at "go"
      refine ⟨rfl, y, x % y, _, rfl, ?_, eu.step (by omega)⟩
      rw [← hg, Nat.gcd_comm x y, Nat.gcd_rec y x, Nat.gcd_comm]
  · rintro σ H' ⟨rfl, x, y, z, rfl, hg, eu⟩
    have hy := Euc.zero (L := 1998) eu
    subst hy
    walk_at "go"
    exact done x z hg
abbrev s__law_lowest : Stmt := topS 23
theorem sc__law_lowest : FnScope ["top", "bottom", "common"] ["top", "bottom"] (defScope s__law_lowest) := ⟨rfl, rfl, rfl, by decide +kernel, rfl, by decide +kernel, by decide +kernel⟩
def sp__law_lowest (K : PySem.W.Frag) : Sp := fun vs H Q _ => ∃ (t b : Int), vs = [.int t, .int b] ∧ b ≠ 0 ∧ b.natAbs < 2 ^ 1998 ∧ ∀ (a : Addr) (n d : Int) H', Low t b n d → Ch [] H H' → Fr K H' a n d → Q (.ref a) H'
theorem c__law_lowest (C__law_gcd : Cal P w K mg base 1 "_law_gcd" sp__law_gcd) {f : Addr} {fd : FuncData} (F : DefF K mg "_law_lowest" s__law_lowest ["top", "bottom"] f fd) : Cal P w K mg base 2 "_law_lowest" (sp__law_lowest K) := by
  refine cal_of F sc__law_lowest (fun vs H Q E h => by obtain ⟨_, _, rfl, _⟩ := h; rfl) (fun cdv A outer s H vs Q E hr h => ?_)
  obtain ⟨t, b, rfl, b0, hb, q⟩ := h
  refine ⟨_, (pss_cons (ps_set (i := 2) sc__law_lowest.nd rfl (Or.inl rfl) (pe_cc C__law_gcd hr (by decide) (by rfl) (pa_cons (pv 0) (pa_cons (pv 1) pa_nil))))
 (pss_cons (ps_if (pt_cmpR op_lt (pv 1) pe_int (nomark _)) (pss_one (ps_ret (pe_tup (pa_cons (pe_op op_fdivG (pe_un un_neg (pv 0)) (pv 2)) (pa_cons (pe_op op_fdivG (pe_un un_neg (pv 1)) (pv 2)) pa_nil))))) pss_nil)
 (pss_one (ps_ret (pe_tup (pa_cons (pe_op op_fdivG (pv 0) (pv 2)) (pa_cons (pe_op op_fdivG (pv 1) (pv 2)) pa_nil))))))), ?_⟩
  refine w_start (σ := [some _, some _, none]) rfl ?_
  walk_at "go"
  refine ⟨t, b, rfl, hb, ?_⟩
  have g0 : 0 < Nat.gcd t.natAbs b.natAbs := Nat.gcd_pos_of_pos_right _ (by omega)
  have gb : ((Nat.gcd t.natAbs b.natAbs : Nat) : Int).natAbs < 2 ^ 1998 := by
    rw [Int.natAbs_natCast]
    exact Nat.lt_of_le_of_lt (Nat.gcd_le_right _ (by omega)) hb
  generalize hg : Nat.gcd t.natAbs b.natAbs = g at g0 gb
  have dv : ∀ u : Int, CDivG u (g : Int) := fun u => div_ok (by omega) gb (by decide)
  walk_at "go"
  refine ite_d (fun h0 => ?_) (fun h0 => ?_)
  · walk_at "go"
    refine w_I (dv _) ?_
    walk_at "go"
    refine w_I (dv _) ?_
    walk_at "go"
    refine w_newT (show 2 ≤ sizeLine by decide) fun a H1 n1 c1 h1 => ?_
    have l := low_of (t := t) (b := b) (s := -1) (g := g) (.inr rfl) (by omega) hg.symm
    rw [Int.neg_one_mul, Int.neg_one_mul] at l
    exact q a _ _ H1 l c1 (.of h1)
  · walk_at "go"
    refine w_I (dv _) ?_
    walk_at "go"
    refine w_I (dv _) ?_
    walk_at "go"
    refine w_newT (show 2 ≤ sizeLine by decide) fun a H1 n1 c1 h1 => ?_
    have l := low_of (t := t) (b := b) (s := 1) (g := g) (.inl rfl) (by omega) hg.symm
    rw [Int.one_mul, Int.one_mul] at l
    exact q a _ _ H1 l c1 (.of h1)
abbrev s__law_long : Stmt := topS 21
theorem sc__law_long : FnScope ["box", "way", "number"] ["box"] (defScope s__law_long) := ⟨rfl, rfl, rfl, by decide +kernel, rfl, by decide +kernel, by decide +kernel⟩
def sp__law_long : Sp := fun vs H Q _ => ∃ (b : Addr), vs = [.ref b] ∧ RB H b ∧ ∀ (r : Int) H', r.natAbs < 2 ^ 140 → Ch [b] H H' → RB H' b → Q (.int r) H'
theorem pow_le {a : Int} (h1 : 1 ≤ a) {i j : Nat} (h : i ≤ j) : a ^ i ≤ a ^ j := by
  obtain ⟨k, rfl⟩ := Nat.le.dest h
  rw [Int.pow_add]
  have p0 : 0 < a ^ k := Int.pow_pos (by omega)
  have p1 : 1 ≤ a ^ k := by omega
  have p2 : 0 < a ^ i := Int.pow_pos (by omega)
  calc a ^ i = a ^ i * 1 := by rw [Int.mul_one]
    _ ≤ a ^ i * a ^ k := Int.mul_le_mul_of_nonneg_left p1 (by omega)
theorem c__law_long (C__law_take : Cal P w K mg base 1 "_law_take" sp__law_take) (C__law_turned : Cal P w K mg base 2 "_law_turned" sp__law_turned) (C__law_power : Cal P w K mg base 1 "_law_power" sp__law_power) (C__law_limbs : Cal P w K mg base 2 "_law_limbs" sp__law_limbs)
    {f : Addr} {fd : FuncData} (F : DefF K mg "_law_long" s__law_long ["box"] f fd) : Cal P w K mg base 3 "_law_long" sp__law_long := by
  refine cal_of F sc__law_long (fun vs H Q E h => by obtain ⟨_, rfl, _⟩ := h; rfl) (fun cdv A outer s H vs Q E hr h => ?_)
  obtain ⟨b, rfl, B, q⟩ := h
  refine ⟨_, (pss_cons (ps_set (i := 1) sc__law_long.nd rfl (Or.inl rfl) (pe_cc C__law_take hr (by decide) (by rfl) (pa_cons (pv 0) (pa_cons pe_int pa_nil))))
 (Evl.pss_cut (ps_if (pt_cmpR op_lt (pv 1) pe_int (nomark _)) (pss_one (ps_set (i := 2) sc__law_long.nd rfl (Or.inl rfl) (pe_cc C__law_take hr (by decide) (by rfl) (pa_cons (pv 0) (pa_cons pe_int pa_nil))))) (pss_one (ps_if (pt_cmpR op_eq (pv 1) pe_int (nomark _)) (pss_one (ps_set (i := 2) sc__law_long.nd rfl (Or.inl rfl) (pe_cc C__law_take hr (by decide) (by rfl) (pa_cons (pv 0) (pa_cons pe_int pa_nil))))) (pss_one (ps_if (pt_cmpR op_eq (pv 1) pe_int (nomark _)) (pss_one (ps_set (i := 2) sc__law_long.nd rfl (Or.inl rfl) (pe_op op_sub (pe_op op_sub (pe_op op_pow pe_int pe_int) pe_int) (pe_cc C__law_take hr (by decide) (by rfl) (pa_cons (pv 0) (pa_cons pe_int pa_nil)))))) (pss_one (ps_if (pt_cmpR op_eq (pv 1) pe_int (nomark _)) (pss_one (ps_set (i := 2) sc__law_long.nd rfl (Or.inl rfl) (pe_op op_sub (pe_op op_add (pe_cc C__law_power hr (by decide) (by rfl) (pa_cons pe_int (pa_cons (pe_op op_add pe_int (pe_cc C__law_take hr (by decide) (by rfl) (pa_cons (pv 0) (pa_cons pe_int pa_nil)))) pa_nil))) (pe_cc C__law_take hr (by decide) (by rfl) (pa_cons (pv 0) (pa_cons pe_int pa_nil)))) pe_int))) (pss_one (ps_if (pt_cmpR op_eq (pv 1) pe_int (nomark _)) (pss_one (ps_set (i := 2) sc__law_long.nd rfl (Or.inl rfl) (pe_op op_sub (pe_op op_add (pe_cc C__law_power hr (by decide) (by rfl) (pa_cons pe_int (pa_cons (pe_op op_add pe_int (pe_cc C__law_take hr (by decide) (by rfl) (pa_cons (pv 0) (pa_cons pe_int pa_nil)))) pa_nil))) (pe_cc C__law_take hr (by decide) (by rfl) (pa_cons (pv 0) (pa_cons pe_int pa_nil)))) pe_int))) (pss_one (ps_set (i := 2) sc__law_long.nd rfl (Or.inl rfl) (pe_cc C__law_limbs hr (by decide) (by rfl) (pa_cons (pv 0) (pa_cons pe_int pa_nil))))))))))))))
 (pss_one (ps_ret (pe_cc C__law_turned hr (by decide) (by rfl) (pa_cons (pv 0) (pa_cons (pv 2) pa_nil))))))), ?_⟩
  refine w_start (σ := [some _, none, none]) rfl ?_
  walk_at "go"
  refine ⟨b, 7, rfl, B, by decide, by decide +kernel, fun way H1 w0 w1 c1 B1 => ?_⟩
  walk_at "go"
  refine w_cut (M := fun σ' H' => Ch [b] H H' ∧ RB H' b ∧ ∃ v : Int, σ' = [some (.ref b), some (.int way), some (.int v)] ∧ v.natAbs < 2 ^ 140) ?_ ?_
  · walk_at "go"
    refine ite_d (fun h0 => ?_) (fun h0 => ?_)
    · walk_at "go"
      refine ⟨b, 13, rfl, B1, by decide, by decide +kernel, fun r H2 r0 r1 c2 B2 => ⟨c1.trans c2, B2, r, rfl, by omega⟩⟩
    walk_at "go"
    refine ite_d (fun h0 => ?_) (fun h0 => ?_)
    · walk_at "go"
      refine ⟨b, 5000, rfl, B1, by decide, by decide +kernel, fun r H2 r0 r1 c2 B2 => ⟨c1.trans c2, B2, r, rfl, by omega⟩⟩
    walk_at "go"
    refine ite_d (fun h0 => ?_) (fun h0 => ?_)
    · walk_at "go"
      refine ⟨b, 3, rfl, B1, by decide, by decide +kernel, fun r H2 r0 r1 c2 B2 => ?_⟩
      walk_at "go"
      refine ⟨c1.trans c2, B2, _, rfl, ?_⟩
      have e : (10 : Int) ^ Int.toNat 40 = 10000000000000000000000000000000000000000 := by decide +kernel
      rw [e]
      have e2 : (2 : Nat) ^ 140 = 1393796574908163946345982392040522594123776 := by decide +kernel
      omega
    walk_at "go"
    refine ite_d (fun h0 => ?_) (fun h0 => ?_)
    · walk_at "go"
      refine ⟨b, 39, rfl, B1, by decide, by decide +kernel, fun r H2 r0 r1 c2 B2 => ?_⟩
      walk_at "go"
      refine ⟨10, 1 + r, 4, rfl, by decide, by decide, by omega, by omega, ?_⟩
      walk_at "go"
      refine ⟨b, 3, rfl, B2, by decide, by decide +kernel, fun r2 H3 s0 s1 c3 B3 => ?_⟩
      walk_at "go"
      refine ⟨(c1.trans c2).trans c3, B3, _, rfl, ?_⟩
      have l := pow_le (a := 10) (by decide) (show (1 + r).toNat ≤ 39 by omega)
      have p := Int.pow_pos (n := 10) (m := (1 + r).toNat) (by decide)
      have e : (10 : Int) ^ 39 = 1000000000000000000000000000000000000000 := by decide +kernel
      have e2 : (2 : Nat) ^ 140 = 1393796574908163946345982392040522594123776 := by decide +kernel
      omega
    walk_at "go"
    refine ite_d (fun h0 => ?_) (fun h0 => ?_)
    · walk_at "go"
      refine ⟨b, 131, rfl, B1, by decide, by decide +kernel, fun r H2 r0 r1 c2 B2 => ?_⟩
      walk_at "go"
      refine ⟨2, 1 + r, 4, rfl, by decide, by decide, by omega, by omega, ?_⟩
      walk_at "go"
      refine ⟨b, 3, rfl, B2, by decide, by decide +kernel, fun r2 H3 s0 s1 c3 B3 => ?_⟩
      walk_at "go"
      refine ⟨(c1.trans c2).trans c3, B3, _, rfl, ?_⟩
      have l := pow_le (a := 2) (by decide) (show (1 + r).toNat ≤ 131 by omega)
      have p := Int.pow_pos (n := 2) (m := (1 + r).toNat) (by decide)
      have e : (2 : Int) ^ 131 = 2722258935367507707706996859454145691648 := by decide +kernel
      have e2 : (2 : Nat) ^ 140 = 1393796574908163946345982392040522594123776 := by decide +kernel
      omega
    walk_at "go"
    refine ⟨b, 8, rfl, B1, by decide, by decide, fun r H2 r0 r1 c2 B2 => ⟨c1.trans c2, B2, r, rfl, ?_⟩⟩
    have e : (100000 : Int) ^ Int.toNat 8 = 10000000000000000000000000000000000000000 := by decide +kernel
    have e2 : (2 : Nat) ^ 140 = 1393796574908163946345982392040522594123776 := by decide +kernel
    omega
  · rintro σ' H' ⟨c2, B2, v, rfl, hv⟩
    walk_at "go"
    refine ⟨b, v, rfl, B2, fun r H3 er c3 B3 => q r H3 (by rcases er with e | e <;> rw [e] <;> omega) (c2.trans c3) B3⟩
end
end My

namespace My
open PySem PySem.Spec PyProof.Rows L2
section
variable {P : Program} {w : World} {K : PySem.W.Frag} {mg : Str → Option Value} {base : Heap}
abbrev s__law_number : Stmt := topS 24
theorem sc__law_number : FnScope ["box", "way", "bottom", "top"] ["box"] (defScope s__law_number) := ⟨rfl, rfl, rfl, by decide +kernel, rfl, by decide +kernel, by decide +kernel⟩
def sp__law_number (K : PySem.W.Frag) : Sp := fun vs H Q _ => ∃ (b : Addr), vs = [.ref b] ∧ RB H b ∧ ∀ (a : Addr) (n d : Int) H', Num n d → Ch [b] H H' → RB H' b → Fr K H' a n d → Q (.ref a) H'
theorem c__law_number (T : Txt mg) (C__law_take : Cal P w K mg base 1 "_law_take" sp__law_take) (C__law_turned : Cal P w K mg base 2 "_law_turned" sp__law_turned) (C__law_power : Cal P w K mg base 1 "_law_power" sp__law_power) (C__law_limbs : Cal P w K mg base 2 "_law_limbs" sp__law_limbs)
    (C__law_long : Cal P w K mg base 3 "_law_long" sp__law_long) (C__law_lowest : Cal P w K mg base 2 "_law_lowest" (sp__law_lowest K)) {f : Addr} {fd : FuncData} (F : DefF K mg "_law_number" s__law_number ["box"] f fd) : Cal P w K mg base 4 "_law_number" (sp__law_number K) := by
  refine cal_of F sc__law_number (fun vs H Q E h => by obtain ⟨_, rfl, _⟩ := h; rfl) (fun cdv A outer s H vs Q E hr h => ?_)
  obtain ⟨b, rfl, B, q⟩ := h
  refine ⟨_, (pss_cons (ps_set (i := 1) sc__law_number.nd rfl (Or.inl rfl) (pe_cc C__law_take hr (by decide) (by rfl) (pa_cons (pv 0) (pa_cons pe_int pa_nil))))
 (pss_cons (ps_if (pt_cmpR op_eq (pv 1) pe_int (nomark _)) (pss_one (ps_ret (pe_cc C__law_lowest hr (by decide) (by rfl) (pa_cons (pe_op op_sub (pe_cc C__law_take hr (by decide) (by rfl) (pa_cons (pv 0) (pa_cons pe_int pa_nil))) pe_int) (pa_cons (pe_op op_add pe_int (pe_cc C__law_take hr (by decide) (by rfl) (pa_cons (pv 0) (pa_cons pe_int pa_nil)))) pa_nil))))) pss_nil)
 (pss_cons (ps_if (pt_cmpR op_eq (pv 1) pe_int (nomark _)) (pss_one (ps_ret (pe_tup (pa_cons (pe_cc C__law_long hr (by decide) (by rfl) (pa_cons (pv 0) pa_nil)) (pa_cons pe_int pa_nil))))) pss_nil)
 (pss_cons (ps_if (pt_cmpR op_eq (pv 1) pe_int (nomark _)) (pss_one (ps_ret (pe_cc C__law_lowest hr (by decide) (by rfl) (pa_cons (pe_op op_sub (pe_cc C__law_take hr (by decide) (by rfl) (pa_cons (pv 0) (pa_cons pe_int pa_nil))) pe_int) (pa_cons (pe_op op_add pe_int (pe_cc C__law_take hr (by decide) (by rfl) (pa_cons (pv 0) (pa_cons pe_int pa_nil)))) pa_nil))))) pss_nil)
 (pss_cons (ps_if (pt_cmpR op_eq (pv 1) pe_int (nomark _)) (pss_one (ps_ret (pe_cc C__law_lowest hr (by decide) (by rfl) (pa_cons (pe_cc C__law_long hr (by decide) (by rfl) (pa_cons (pv 0) pa_nil)) (pa_cons (pe_cc C__law_power hr (by decide) (by rfl) (pa_cons pe_int (pa_cons (pe_cc C__law_take hr (by decide) (by rfl) (pa_cons (pv 0) (pa_cons pe_int pa_nil))) pa_nil))) pa_nil))))) pss_nil)
 (pss_cons (ps_if (pt_cmpR op_eq (pv 1) pe_int (nomark _)) (pss_cons (ps_set (i := 2) sc__law_number.nd rfl (Or.inl rfl) (pe_op op_add pe_int (pe_cc C__law_limbs hr (by decide) (by rfl) (pa_cons (pv 0) (pa_cons pe_int pa_nil)))))
 (pss_one (ps_ret (pe_cc C__law_lowest hr (by decide) (by rfl) (pa_cons (pe_op op_sub (pe_op op_add (pe_op op_mulG (pe_cc C__law_turned hr (by decide) (by rfl) (pa_cons (pv 0) (pa_cons (pe_cc C__law_limbs hr (by decide) (by rfl) (pa_cons (pv 0) (pa_cons pe_int pa_nil))) pa_nil))) (pv 2)) (pe_cc C__law_take hr (by decide) (by rfl) (pa_cons (pv 0) (pa_cons pe_int pa_nil)))) pe_int) (pa_cons (pv 2) pa_nil)))))) pss_nil)
 (pss_cons (ps_set (i := 3) sc__law_number.nd rfl (Or.inl rfl) (pe_cc C__law_long hr (by decide) (by rfl) (pa_cons (pv 0) pa_nil)))
 (pss_cons (ps_set (i := 2) sc__law_number.nd rfl (Or.inl rfl) (pe_callB cb_abs (by rfl) T.z_abs (by decide +kernel) (pa_cons (pe_cc C__law_long hr (by decide) (by rfl) (pa_cons (pv 0) pa_nil)) pa_nil)))
 (Evl.pss_cut (ps_if (pt_cmpR op_eq (pv 2) pe_int (nomark _)) (pss_one (ps_set (i := 2) sc__law_number.nd rfl (Or.inl rfl) pe_int)) pss_nil)
 (pss_one (ps_ret (pe_cc C__law_lowest hr (by decide) (by rfl) (pa_cons (pv 3) (pa_cons (pv 2) pa_nil)))))))))))))), ?_⟩
  refine w_start (σ := [some _, none, none, none]) rfl ?_
  have big : ∀ {x : Int} {j : Nat}, x.natAbs < 2 ^ j → j ≤ 300 → x.natAbs < 2 ^ 300 := fun h hj => abs_mono h hj
  have fin : ∀ {t u : Int} {Hx : Hp}, u ≠ 0 → t.natAbs < 2 ^ 300 → u.natAbs < 2 ^ 300 → Ch [b] H Hx → RB Hx b → sp__law_lowest K ([.int t, .int u] ++ []) Hx Q E0 := fun u0 ht hu c B => ⟨_, _, rfl, u0, abs_mono hu (by decide), fun a n d H' l c2 fr => q a n d H' (l.num ht hu) (c.trans0 c2) (B.mono c2) fr⟩
  walk_at "go"
  refine ⟨b, 6, rfl, B, by decide, by decide +kernel, fun way H1 w0 w1 c1 B1 => ?_⟩
  walk_at "go"
  refine ite_d (fun h0 => ?_) (fun h0 => ?_)
  · walk_at "go"
    refine ⟨b, 25, rfl, B1, by decide, by decide +kernel, fun r H2 r0 r1 c2 B2 => ?_⟩
    walk_at "go"
    refine ⟨b, 12, rfl, B2, by decide, by decide +kernel, fun r2 H3 s0 s1 c3 B3 => ?_⟩
    walk_at "go"
    exact fin (by omega) (big (j := 10) (by omega) (by decide)) (big (j := 10) (by omega) (by decide)) ((c1.trans c2).trans c3) B3
  walk_at "go"
  refine ite_d (fun h1 => ?_) (fun h1 => ?_)
  · walk_at "go"
    refine ⟨b, rfl, B1, fun r H2 hr2 c2 B2 => ?_⟩
    walk_at "go"
    refine w_newT (show 2 ≤ sizeLine by decide) fun a H3 n3 c3 h3 => ?_
    exact q a r 1 H3 ⟨by decide, Nat.gcd_one_right _, big hr2 (by decide), by decide +kernel⟩ ((c1.trans c2).trans0 c3) (B2.mono c3) (.of h3)
  walk_at "go"
  refine ite_d (fun h2 => ?_) (fun h2 => ?_)
  · walk_at "go"
    refine ⟨b, 2001, rfl, B1, by decide, by decide +kernel, fun r H2 r0 r1 c2 B2 => ?_⟩
    walk_at "go"
    refine ⟨b, 60, rfl, B2, by decide, by decide +kernel, fun r2 H3 s0 s1 c3 B3 => ?_⟩
    walk_at "go"
    exact fin (by omega) (big (j := 20) (by omega) (by decide)) (big (j := 10) (by omega) (by decide)) ((c1.trans c2).trans c3) B3
  walk_at "go"
  refine ite_d (fun h3 => ?_) (fun h3 => ?_)
  · walk_at "go"
    refine ⟨b, rfl, B1, fun r H2 hr2 c2 B2 => ?_⟩
    walk_at "go"
    refine ⟨b, 40, rfl, B2, by decide, by decide +kernel, fun r2 H3 s0 s1 c3 B3 => ?_⟩
    walk_at "go"
    refine ⟨10, r2, 4, rfl, by decide, by decide, s0, by omega, ?_⟩
    walk_at "go"
    have p := Int.pow_pos (n := 10) (m := r2.toNat) (by decide)
    refine fin (by omega) (big hr2 (by decide)) (abs_mono (abs_pow_lt (b := 4) (s := r2.toNat) (a := 10) (by decide)) (by omega)) ((c1.trans c2).trans c3) B3
  walk_at "go"
  refine ite_d (fun h4 => ?_) (fun h4 => ?_)
  · walk_at "go"
    refine ⟨b, 3, rfl, B1, by decide, by decide, fun r H2 r0 r1 c2 B2 => ?_⟩
    have e3 : (100000 : Int) ^ Int.toNat 3 = 1000000000000000 := by decide +kernel
    rw [e3] at r1
    walk_at "go"
    refine ⟨b, 3, rfl, B2, by decide, by decide, fun r2 H3 s0 s1 c3 B3 => ?_⟩
    rw [e3] at s1
    walk_at "go"
    refine ⟨b, r2, rfl, B3, fun u H4 eu c4 B4 => ?_⟩
    walk_at "go"
    refine w_I (mul_ok_r (by omega)) ?_
    walk_at "go"
    refine ⟨b, 3, rfl, B4, by decide, by decide +kernel, fun r3 H5 t0 t1 c5 B5 => ?_⟩
    walk_at "go"
    refine fin (by omega) ?_ (big (j := 60) (by omega) (by decide)) ((((c1.trans c2).trans c3).trans c4).trans c5) B5
    have m1 : (u * (1 + r)).natAbs ≤ 1000000000000000 * 1000000000000001 := by
      rw [Int.natAbs_mul]
      exact Nat.mul_le_mul (by rcases eu with e | e <;> omega) (by omega)
    exact big (j := 120) (by omega) (by decide)
  walk_at "go"
  refine ⟨b, rfl, B1, fun r H2 hr2 c2 B2 => ?_⟩
  walk_at "go"
  refine ⟨b, rfl, B2, fun r2 H3 hr3 c3 B3 => ?_⟩
  walk_at "go"
  refine w_cut (M := fun σ' H' => H' = H3 ∧ ∃ u : Int, σ' = [some (.ref b), some (.int way), some (.int u), some (.int r)] ∧ u ≠ 0 ∧ u.natAbs < 2 ^ 140) ?_ ?_
  · walk_at "go"
    refine ite_d (fun h5 => ?_) (fun h5 => ?_)
    · walk_at "go"
      exact ⟨rfl, 1, rfl, by decide, by decide +kernel⟩
    · walk_at "go"
      exact ⟨rfl, _, rfl, h5, by rw [Int.natAbs_natCast]; exact hr3⟩
  · rintro σ' H' ⟨rfl, u, rfl, u0, ub⟩
    walk_at "go"
    exact fin u0 (big hr2 (by decide)) (big ub (by decide)) ((c1.trans c2).trans c3) B3
end
end My

namespace My
open PySem PySem.Spec PyProof.Rows L2
section
variable {P : Program} {w : World} {K : PySem.W.Frag} {mg : Str → Option Value} {base : Heap}
/-! ### ends of a stretch -/
/-- an end: none, or a fraction with a positive denominator below 2 ^ z -/
def End (K : PySem.W.Frag) (H : Hp) (z : Nat) (v : V) : Option (Int × Int) → Prop
  | none => v = .non
  | some (n, d) => ∃ a, v = .ref a ∧ Fr K H a n d ∧ 0 < d ∧ n.natAbs < 2 ^ z ∧ d.natAbs < 2 ^ z
theorem End.ch {L : List Addr} {H H' : Hp} {z : Nat} {v : V} {o : Option (Int × Int)} (h : End K H z v o) (c : Ch L H H') : End K H' z v o := by
  cases o with
  | none => exact h
  | some p =>
    obtain ⟨n, d⟩ := p
    obtain ⟨a, e, f, r⟩ := h
    exact ⟨a, e, c.sqT f, r⟩
theorem End.mono {H : Hp} {z z' : Nat} {v : V} {o : Option (Int × Int)} (h : End K H z v o) (le : z ≤ z') : End K H z' v o := by
  cases o with
  | none => exact h
  | some p =>
    obtain ⟨n, d⟩ := p
    obtain ⟨a, e, f, r, b1, b2⟩ := h
    exact ⟨a, e, f, r, abs_mono b1 le, abs_mono b2 le⟩
theorem nn_ref {a : Addr} : decide (V.ref a = V.non) = false := decide_eq_false (fun e => by cases e)
theorem nn_non : decide (V.non = V.non) = true := decide_eq_true rfl
theorem ite_F {A B : Prop} {k : Bool} (h : k = false) (a : B) : if k = true then A else B := by rw [if_neg (by rw [h]; decide)]; exact a
theorem ite_T {A B : Prop} {k : Bool} (h : k = true) (a : A) : if k = true then A else B := by rw [if_pos h]; exact a
abbrev s__law_less : Stmt := topS 25
theorem sc__law_less : FnScope ["a", "b"] ["a", "b"] (defScope s__law_less) := ⟨rfl, rfl, rfl, by decide +kernel, rfl, by decide +kernel, by decide +kernel⟩
def sp__law_less (K : PySem.W.Frag) : Sp := fun vs H Q _ => ∃ (a b : Addr) (n d m e : Int) (z : Nat), vs = [.ref a, .ref b] ∧ Fr K H a n d ∧ Fr K H b m e ∧ n.natAbs < 2 ^ z ∧ d.natAbs < 2 ^ z ∧ m.natAbs < 2 ^ z ∧ e.natAbs < 2 ^ z ∧ z ≤ 60000000 ∧ Q (.bl (decide (n * e < m * d))) H
theorem c__law_less {f : Addr} {fd : FuncData} (F : DefF K mg "_law_less" s__law_less ["a", "b"] f fd) : Cal P w K mg base 1 "_law_less" (sp__law_less K) := by
  refine cal_of F sc__law_less (fun vs H Q E h => by obtain ⟨_, _, _, _, _, _, _, rfl, _⟩ := h; rfl) (fun cdv A outer s H vs Q E hr h => ?_)
  obtain ⟨a, b, n, d, m, e, z, rfl, ha, hb, h1, h2, h3, h4, hz, q⟩ := h
  refine ⟨_, (pss_one (ps_ret (pe_cmpR op_lt (pe_op op_mulG (pe_ix (k_ixT (K := K) rfl) (pv 0) pe_int (fun _ _ => rfl)) (pe_ix (k_ixT (K := K) rfl) (pv 1) pe_int (fun _ _ => rfl))) (pe_op op_mulG (pe_ix (k_ixT (K := K) rfl) (pv 1) pe_int (fun _ _ => rfl)) (pe_ix (k_ixT (K := K) rfl) (pv 0) pe_int (fun _ _ => rfl))) (nomark _)))), ?_⟩
  refine w_start (σ := [some _, some _]) rfl ?_
  walk_at "go"
  refine w_I (mul_ok h1 h4 (by omega)) ?_
  walk_at "go"
  refine w_I (mul_ok h3 h2 (by omega)) ?_
  walk_at "go"
  exact q
abbrev s__law_inside : Stmt := topS 26
theorem sc__law_inside : FnScope ["top", "bottom", "low", "high"] ["top", "bottom", "low", "high"] (defScope s__law_inside) := ⟨rfl, rfl, rfl, by decide +kernel, rfl, by decide +kernel, by decide +kernel⟩
def sp__law_inside (K : PySem.W.Frag) : Sp := fun vs H Q _ => ∃ (x y : Int) (l h : V) (lo hi : Option (Int × Int)) (z : Nat), vs = [.int x, .int y, l, h] ∧ End K H z l lo ∧ End K H z h hi ∧ x.natAbs < 2 ^ z ∧ y.natAbs < 2 ^ z ∧ z ≤ 60000000 ∧ Q (.bl (decide (Abv x y lo ∧ Blw x y hi))) H
theorem c__law_inside {f : Addr} {fd : FuncData} (F : DefF K mg "_law_inside" s__law_inside ["top", "bottom", "low", "high"] f fd) : Cal P w K mg base 1 "_law_inside" (sp__law_inside K) := by
  refine cal_of F sc__law_inside (fun vs H Q E h => by obtain ⟨_, _, _, _, _, _, _, rfl, _⟩ := h; rfl) (fun cdv A outer s H vs Q E hr h => ?_)
  obtain ⟨x, y, l, h, lo, hi, z, rfl, el, eh, hx, hy, hz, q⟩ := h
  refine ⟨_, (pss_cons (ps_if (PW.pt (pw_and (pt_cmpR op_notN (pv 2) pe_non (nomark _)) (pw_and1 (pt_cmpR op_ge (pe_op op_mulG (pe_ix (k_ixT (K := K) rfl) (pv 2) pe_int (fun _ _ => rfl)) (pv 1)) (pe_op op_mulG (pv 0) (pe_ix (k_ixT (K := K) rfl) (pv 2) pe_int (fun _ _ => rfl))) (nomark _))))) (pss_one (ps_ret pe_bl)) pss_nil)
 (pss_one (ps_ret (pe_or (pe_cmpR op_isN (pv 3) pe_non (nomark _)) (pe_one (pe_cmpR op_lt (pe_op op_mulG (pv 0) (pe_ix (k_ixT (K := K) rfl) (pv 3) pe_int (fun _ _ => rfl))) (pe_op op_mulG (pe_ix (k_ixT (K := K) rfl) (pv 3) pe_int (fun _ _ => rfl)) (pv 1)) (nomark _))))))), ?_⟩
  refine w_start (σ := [some _, some _, some _, some _]) rfl ?_
  walk_at "go"
  refine ⟨rfl, ?_⟩
  walk_at "go"
  cases lo with
  | none =>
    obtain rfl : l = .non := el
    refine ite_F (by rw [nn_non]; rfl) ?_
    rw [if_neg (by decide)]
    have ab : Abv x y none := trivial
    walk_at "go"
    refine ⟨rfl, ?_⟩
    walk_at "go"
    cases hi with
    | none =>
      obtain rfl : h = .non := eh
      refine ite_T nn_non ?_
      rw [decide_eq_true (⟨ab, trivial⟩ : Abv x y none ∧ Blw x y none)] at q
      exact q
    | some p2 =>
      obtain ⟨m, e⟩ := p2
      obtain ⟨a2, rfl, fa2, e0, b3, b4⟩ := eh
      refine ite_F nn_ref ?_
      walk_at "go"
      refine w_I (mul_ok hx b4 (by omega)) ?_
      walk_at "go"
      refine w_I (mul_ok b3 hy (by omega)) ?_
      walk_at "go"
      have e2 : decide (Abv x y none ∧ Blw x y (some (m, e))) = decide (x * e < m * y) := by
        by_cases c : x * e < m * y
        · rw [decide_eq_true c, decide_eq_true ⟨ab, c⟩]
        · rw [decide_eq_false c, decide_eq_false fun z => c z.2]
      rw [e2] at q
      exact q
  | some p =>
    obtain ⟨n, d⟩ := p
    obtain ⟨a, rfl, fa, d0, b1, b2⟩ := el
    refine ite_T (by rw [nn_ref]; rfl) ?_
    walk_at "go"
    refine w_I (mul_ok b1 hy (by omega)) ?_
    walk_at "go"
    refine w_I (mul_ok hx b2 (by omega)) ?_
    walk_at "go"
    refine ite_d (fun c => ?_) (fun c => ?_)
    · walk_at "go"
      have e : ¬ (Abv x y (some (n, d)) ∧ Blw x y hi) := fun e => by
        have e1 : n * y < x * d := e.1
        omega
      rw [decide_eq_false e] at q
      exact q
    · have ab : Abv x y (some (n, d)) := show n * y < x * d by omega
      walk_at "go"
      refine ⟨rfl, ?_⟩
      walk_at "go"
      cases hi with
      | none =>
        obtain rfl : h = .non := eh
        refine ite_T nn_non ?_
        rw [decide_eq_true (⟨ab, trivial⟩ : Abv x y (some (n, d)) ∧ Blw x y none)] at q
        exact q
      | some p2 =>
        obtain ⟨m, e⟩ := p2
        obtain ⟨a2, rfl, fa2, e0, b3, b4⟩ := eh
        refine ite_F nn_ref ?_
        walk_at "go"
        refine w_I (mul_ok hx b4 (by omega)) ?_
        walk_at "go"
        refine w_I (mul_ok b3 hy (by omega)) ?_
        walk_at "go"
        have e2 : decide (Abv x y (some (n, d)) ∧ Blw x y (some (m, e))) = decide (x * e < m * y) := by
          by_cases c : x * e < m * y
          · rw [decide_eq_true c, decide_eq_true ⟨ab, c⟩]
          · rw [decide_eq_false c, decide_eq_false fun z => c z.2]
        rw [e2] at q
        exact q
end
end My

namespace My
open PySem PySem.Spec PyProof.Rows L2
theorem nat_bd {x : Int} {j : Nat} (h1 : -((2 : Int) ^ j) < x) (h2 : x < (2 : Int) ^ j) : x.natAbs < 2 ^ j := by
  have e : ((2 ^ j : Nat) : Int) = (2 : Int) ^ j := by simp
  omega
theorem int_bd {x : Int} {j : Nat} (h : x.natAbs < 2 ^ j) : -((2 : Int) ^ j) < x ∧ x < (2 : Int) ^ j := by
  have e : ((2 ^ j : Nat) : Int) = (2 : Int) ^ j := by simp
  omega
theorem fdiv_abs {n d : Int} (hd : 0 < d) : -(n.natAbs : Int) ≤ n.fdiv d ∧ n.fdiv d ≤ n.natAbs := by
  obtain ⟨w1, w2⟩ := fdiv_bd (n := n) hd
  by_cases c : 0 ≤ n.fdiv d
  · have := le_mul_pos c (show 1 ≤ d by omega)
    omega
  · have h := le_mul_pos (show 0 ≤ -(n.fdiv d + 1) by omega) (show 1 ≤ d by omega)
    rw [Int.neg_mul] at h
    omega
section
variable {n0 d0 m0 e0 p pb q qb n d m e : Int} {z : Nat}
theorem LI.nat (h : LI n0 d0 m0 e0 ((2 : Int) ^ z) p pb q qb n d m e) (hn : n0.natAbs < 2 ^ z) (hm : m0.natAbs < 2 ^ z) (hd0 : 0 < d0) (hd : d0.natAbs < 2 ^ z) (he0 : 0 < e0) (he : e0.natAbs < 2 ^ z) :
    p.natAbs < 2 ^ (2 * z + 3) ∧ pb.natAbs < 2 ^ (2 * z + 3) ∧ q.natAbs < 2 ^ (2 * z + 3) ∧ qb.natAbs < 2 ^ (2 * z + 3) ∧ d.natAbs < 2 ^ (z + 1) ∧ e.natAbs < 2 ^ (2 * z + 3) ∧ (n.fdiv d).natAbs < 2 ^ (2 * z + 3) ∧ (n.fdiv d + 1).natAbs < 2 ^ (2 * z + 3) := by
  have B0 : 0 < (2 : Int) ^ z := Int.pow_pos (by decide)
  have n1 := int_bd hn
  have m1 := int_bd hm
  have d1 := int_bd hd
  have e1 := int_bd he
  obtain ⟨a1, a2, a3, a4, a5, a6, a7, a8⟩ := h.small (N := (2 : Int) ^ z) (by omega) (by omega) (by omega) (by omega)
  have f := fdiv_abs (n := n) h.dp
  have dp := h.dp
  have ep := h.ep
  have e2 : (2 : Int) ^ (2 * z + 3) = 8 * ((2 : Int) ^ z * (2 : Int) ^ z) := by
    rw [Int.pow_add, show 2 * z = z + z by omega, Int.pow_add]
    omega
  have e3 : (2 : Int) ^ (z + 1) = 2 * (2 : Int) ^ z := by
    rw [Int.pow_succ]
    omega
  have k := le_mul_pos (show 0 ≤ (2 : Int) ^ z by omega) (show 1 ≤ (2 : Int) ^ z by omega)
  refine ⟨nat_bd ?_ ?_, nat_bd ?_ ?_, nat_bd ?_ ?_, nat_bd ?_ ?_, nat_bd ?_ ?_, nat_bd ?_ ?_, nat_bd ?_ ?_, nat_bd ?_ ?_⟩ <;> first | (rw [e2]; omega) | (rw [e3]; omega)
end
section
variable {P : Program} {w : World} {K : PySem.W.Frag} {mg : Str → Option Value} {base : Heap}
abbrev s__inside : Stmt := topS 11
theorem sc__inside : FnScope ["low", "high", "n", "d", "m", "e", "p_before", "p", "q_before", "q", "whole"] ["low", "high"] (defScope s__inside) := ⟨rfl, rfl, rfl, by decide +kernel, rfl, by decide +kernel, by decide +kernel⟩
def sp__inside (K : PySem.W.Frag) : Sp := fun vs H Q _ => ∃ (a b : Addr) (n d m e : Int) (z : Nat), vs = [.ref a, .ref b] ∧ Fr K H a n d ∧ Fr K H b m e ∧ 0 < d ∧ 0 < e ∧ n * e < m * d ∧ n.natAbs < 2 ^ z ∧ d.natAbs < 2 ^ z ∧ m.natAbs < 2 ^ z ∧ e.natAbs < 2 ^ z ∧ z ≤ 4000 ∧
  ∀ (t : Addr) (X Y : Int) H', 1 ≤ Y → n * Y < X * d → X * e < m * Y → (∀ x y : Int, 1 ≤ y → n * y < x * d → x * e < m * y → Y ≤ y) → Ch [] H H' → Fr K H' t X Y → Q (.ref t) H'
theorem c__inside {f : Addr} {fd : FuncData} (F : DefF K mg "_inside" s__inside ["low", "high"] f fd) : Cal P w K mg base 1 "_inside" (sp__inside K) := by
  refine cal_of F sc__inside (fun vs H Q E h => by obtain ⟨_, _, _, _, _, _, _, rfl, _⟩ := h; rfl) (fun cdv A outer s H vs Q E hr h => ?_)
  obtain ⟨a, b, n, d, m, e, z, rfl, ha, hb, hd, he, ne, bn, bd, bm, be, hz, q⟩ := h
  refine ⟨_, (pss_cons (ps_asg (pe_tup (pa_cons (pv 0) (pa_cons (pv 1) pa_nil))) (k_gtup (K := K) rfl rfl (pgs_cons (k_gtup (K := K) rfl rfl (pgs_cons (pg_name (i := 2) sc__inside.nd rfl (Or.inl rfl)) (pgs_cons (pg_name (i := 3) sc__inside.nd rfl (Or.inl rfl)) pgs_nil))) (pgs_cons (k_gtup (K := K) rfl rfl (pgs_cons (pg_name (i := 4) sc__inside.nd rfl (Or.inl rfl)) (pgs_cons (pg_name (i := 5) sc__inside.nd rfl (Or.inl rfl)) pgs_nil))) pgs_nil))))
 (pss_cons (ps_asg (pe_tup (pa_cons pe_int (pa_cons pe_int pa_nil))) (k_gtup (K := K) rfl rfl (pgs_cons (pg_name (i := 6) sc__inside.nd rfl (Or.inl rfl)) (pgs_cons (pg_name (i := 7) sc__inside.nd rfl (Or.inl rfl)) pgs_nil))))
 (pss_cons (ps_asg (pe_tup (pa_cons pe_int (pa_cons pe_int pa_nil))) (k_gtup (K := K) rfl rfl (pgs_cons (pg_name (i := 8) sc__inside.nd rfl (Or.inl rfl)) (pgs_cons (pg_name (i := 9) sc__inside.nd rfl (Or.inl rfl)) pgs_nil))))
 (pss_cons (ps_set (i := 10) sc__inside.nd rfl (Or.inl rfl) (pe_op op_fdivG (pv 2) (pv 3)))
 (pss_cons (ps_while PassesOwn.never (PW.pt (pw_and (pt_cmpR op_ne (pv 5) pe_int (nomark _)) (pw_and1 (pt_cmpR op_ge (pe_op op_mulG (pe_op op_add (pv 10) pe_int) (pv 5)) (pv 4) (nomark _))))) (pss_cons (ps_par (i := 6) (j := 7) (by rfl) sc__inside.nd rfl rfl (by decide) rfl rfl (pa_cons (pv 7) (pa_cons (pe_op op_add (pe_op op_mulG (pv 7) (pv 10)) (pv 6)) pa_nil)) (by rfl))
 (pss_cons (ps_par (i := 8) (j := 9) (by rfl) sc__inside.nd rfl rfl (by decide) rfl rfl (pa_cons (pv 9) (pa_cons (pe_op op_add (pe_op op_mulG (pv 9) (pv 10)) (pv 8)) pa_nil)) (by rfl))
 (pss_cons (ps_asg (pe_tup (pa_cons (pv 5) (pa_cons (pe_op op_sub (pv 4) (pe_op op_mulG (pv 10) (pv 5))) (pa_cons (pv 3) (pa_cons (pe_op op_sub (pv 2) (pe_op op_mulG (pv 10) (pv 3))) pa_nil))))) (k_gtup (K := K) rfl rfl (pgs_cons (pg_name (i := 2) sc__inside.nd rfl (Or.inl rfl)) (pgs_cons (pg_name (i := 3) sc__inside.nd rfl (Or.inl rfl)) (pgs_cons (pg_name (i := 4) sc__inside.nd rfl (Or.inl rfl)) (pgs_cons (pg_name (i := 5) sc__inside.nd rfl (Or.inl rfl)) pgs_nil))))))
 (pss_one (ps_set (i := 10) sc__inside.nd rfl (Or.inl rfl) (pe_op op_fdivG (pv 2) (pv 3))))))))
 (pss_one (ps_ret (pe_tup (pa_cons (pe_op op_add (pe_op op_mulG (pv 7) (pe_op op_add (pv 10) pe_int)) (pv 6)) (pa_cons (pe_op op_add (pe_op op_mulG (pv 9) (pe_op op_add (pv 10) pe_int)) (pv 8)) pa_nil)))))))))), ?_⟩
  refine w_start (σ := [some _, some _, none, none, none, none, none, none, none, none, none]) rfl ?_
  walk_at "go"
  refine w_newT (show 2 ≤ sizeLine by decide) fun t1 H1 n1 c1 h1 => ?_
  refine w_gtup (.of h1) rfl ?_
  walk_at "go"
  refine w_gtup (xs := [.int n, .int d]) (c1.sqT ha) rfl ?_
  walk_at "go"
  refine w_gtup (xs := [.int m, .int e]) (c1.sqT hb) rfl ?_
  walk_at "go"
  refine w_newT (show 2 ≤ sizeLine by decide) fun t2 H2 n2 c2 h2 => ?_
  refine w_gtup (.of h2) rfl ?_
  walk_at "go"
  refine w_newT (show 2 ≤ sizeLine by decide) fun t3 H3 n3 c3 h3 => ?_
  refine w_gtup (.of h3) rfl ?_
  walk_at "go"
  refine w_I (div_ok (by omega) bd (by omega)) ?_
  walk_at "go"
  refine w_while (fun k σ H' => Ch [] H H' ∧ ∃ n' d' m' e' pb p qb q : Int, σ = [some (.ref a), some (.ref b), some (.int n'), some (.int d'), some (.int m'), some (.int e'), some (.int pb), some (.int p), some (.int qb), some (.int q), some (.int (n'.fdiv d'))] ∧
    LI n d m e ((2 : Int) ^ z) p pb q qb n' d' m' e' ∧ k = (d' + e').toNat) _ ⟨(c1.trans c2).trans c3, n, d, m, e, 0, 1, 1, 0, rfl, LI.first hd he ne, rfl⟩ ?_
  rintro k σ H4 ⟨c4, n', d', m', e', pb, p, qb, qq, rfl, L, rfl⟩
  obtain ⟨b1, b2, b3, b4, b5, b6, b7, b8⟩ := L.nat bn bm hd bd he be
  have dp := L.dp
  have ep := L.ep
  have d1 := int_bd bd
  have e1 := int_bd be
  walk_at "go"
  have fin : (e' = 0 ∨ (n'.fdiv d' + 1) * e' < m') → tRet (tTup (tCons (tOp (rI0 fun i j => V.int (i + j)) (tOp (rI IntMulOk fun i j => V.int (i * j)) (tVar 7) (tOp (rI0 fun i j => V.int (i + j)) (tVar 10) (tC (V.int 1)))) (tVar 6))
      (tCons (tOp (rI0 fun i j => V.int (i + j)) (tOp (rI IntMulOk fun i j => V.int (i * j)) (tVar 9) (tOp (rI0 fun i j => V.int (i + j)) (tVar 10) (tC (V.int 1)))) (tVar 8)) tNil))) { nx := fun x H' => Q V.non H', rt := Q }
      [some (V.ref a), some (V.ref b), some (V.int n'), some (V.int d'), some (V.int m'), some (V.int e'), some (V.int pb), some (V.int p), some (V.int qb), some (V.int qq), some (V.int (n'.fdiv d'))] H4 := fun hend => by
    obtain ⟨r1, r2, r3, r4⟩ := L.done _ rfl hend
    walk_at "go"
    refine w_I (mul_ok b1 b8 (by omega)) ?_
    walk_at "go"
    refine w_I (mul_ok b3 b8 (by omega)) ?_
    walk_at "go"
    refine w_newT (show 2 ≤ sizeLine by decide) fun t H5 n5 c5 h5 => ?_
    exact q t _ _ H5 r1 r2 r3 r4 (c4.trans c5) (.of h5)
  refine ite_nd (fun he0 => ?_) (fun he0 => ?_)
  · walk_at "go"
    refine w_I (mul_ok b8 b6 (by omega)) ?_
    walk_at "go"
    refine ite_d (fun hc => ?_) (fun hc => ?_)
    · have L2 := L.next ⟨by omega, by omega⟩ he0 _ rfl hc
      have dp2 := L2.dp
      refine ⟨_, fun _ _ h => h, ?_⟩
      walk_at "go"
      refine w_I (mul_ok b1 b7 (by omega)) ?_
      walk_at "go"
      refine w_I (mul_ok b3 b7 (by omega)) ?_
      walk_at "go"
      refine w_I (mul_ok b7 b6 (by omega)) ?_
      walk_at "go"
      refine w_I (mul_ok b7 b5 (by omega)) ?_
      walk_at "go"
      refine w_newT (show 4 ≤ sizeLine by decide) fun t H5 n5 c5 h5 => ?_
      refine w_gtup (.of h5) rfl ?_
      walk_at "go"
      obtain ⟨_, _, _, _, f5, _⟩ := L2.nat bn bm hd bd he be
      refine w_I (div_ok (by omega) f5 (by omega)) ?_
      walk_at "go"
      refine ⟨_, ?_, c4.trans c5, _, _, _, _, _, _, _, _, rfl, L2, rfl⟩
      obtain ⟨w1, w2⟩ := fdiv_bd (n := n') dp
      have e2 : (n'.fdiv d' + 1) * e' = n'.fdiv d' * e' + e' := by rw [Int.add_mul, Int.one_mul]
      have e3 : (n'.fdiv d' + 1) * d' = n'.fdiv d' * d' + d' := by rw [Int.add_mul, Int.one_mul]
      have ep2 := L2.ep
      omega
    · exact fin (.inr (by omega))
  · rw [if_neg (by decide)]
    exact fin (.inl he0)
end
end My

namespace My
open PySem PySem.Spec PyProof.Rows L2
section
variable {P : Program} {w : World} {K : PySem.W.Frag} {mg : Str → Option Value} {base : Heap}
abbrev si_InvalidStretch : Stmt := inClass (topS 3) 0
theorem sci_InvalidStretch : FnScope ["self", "low", "high"] ["self", "low", "high"] (defScope si_InvalidStretch) := ⟨rfl, rfl, rfl, by decide +kernel, rfl, by decide +kernel, by decide +kernel⟩
theorem ci_InvalidStretch {C fI : Addr} {fd : FuncData} (T : OexC K C) (n_low : PySem.W.findIn K (.ref C) "low" = some none) (n_high : PySem.W.findIn K (.ref C) "high" = some none) (F : Fun K "__init__" "InvalidStretch.__init__" si_InvalidStretch fI fd) : FnOk P w K mg base (L2.CX P w) 1 fI fd ["self", "low", "high"] (sp_init2 K C "low" "high") := by
  refine F.okX sci_InvalidStretch (fun vs H Q E h => by obtain ⟨_, _, _, rfl, _⟩ := h; rfl) (fun cdv A outer s H vs Q E hr h => ?_)
  obtain ⟨a, low, high, rfl, ea, qq⟩ := h
  exact ⟨_, (pss_cons (ps_ost (pv 0) (pv 1)) (pss_one (ps_ost (pv 0) (pv 2)))), init2_pure T n_low n_high ea qq⟩
/-- both ends stand, the low one is below the high one -/
def Nem (lo hi : Option (Int × Int)) : Prop := ∀ n d m e : Int, lo = some (n, d) → hi = some (m, e) → n * e < m * d
theorem sgn_ge {i : Int} : (0 ≤ sgn i) ↔ 0 ≤ i := by
  unfold sgn
  split
  · omega
  · split <;> omega
abbrev s_between : Stmt := topS 10
theorem sc_between : FnScope ["low", "high", "above_low", "below_high", "least", "greatest"] ["low", "high"] (defScope s_between) := ⟨rfl, rfl, rfl, by decide +kernel, rfl, by decide +kernel, by decide +kernel⟩
def sp_between (K : PySem.W.Frag) (C : Addr) : Sp := fun vs H Q E => ∃ (l h : V) (lo hi : Option (Int × Int)) (z : Nat), vs = [l, h] ∧ End K H z l lo ∧ End K H z h hi ∧ z ≤ 4000 ∧
  (∀ n d m e : Int, lo = some (n, d) → hi = some (m, e) → m * d ≤ n * e → ∀ (dd : Addr) H', Ch [] H H' → H' dd = some (.xd [("high", h), ("low", l)]) → E (.ref C) (some dd) H') ∧
  (Nem lo hi → ∀ (t : Addr) (X Y : Int) H', Simp lo hi X Y → Ch [] H H' → Fr K H' t X Y → Q (.ref t) H')
theorem not_eq {i : Int} : (0 ≤ sgn i) ↔ 0 ≤ i := sgn_ge
theorem c_between {A_InvalidStretch A_ZERO : Addr} (zz : ∀ H, Fr K H A_ZERO 0 1) (G_ZERO : mg "ZERO" = some (.ref A_ZERO)) (O_InvalidStretch : OexD P w K mg base 1 "InvalidStretch" A_InvalidStretch (sp_init2 K A_InvalidStretch "low" "high"))
    (C_compare : Cal P w K mg base 2 "compare" (sp_compare K)) (C_floor : Cal P w K mg base 1 "floor" (sp_floor K)) (C__inside : Cal P w K mg base 1 "_inside" (sp__inside K))
    {f : Addr} {fd : FuncData} (F : DefF K mg "between" s_between ["low", "high"] f fd) : CalN P w K mg base 3 "between" (sp_between K A_InvalidStretch) := by
  refine cal_ofN F sc_between (fun vs H Q E h => by obtain ⟨_, _, _, _, _, rfl, _⟩ := h; rfl) (fun cdv A outer s H vs Q E hr h => ?_)
  obtain ⟨l, h, lo, hi, z, rfl, el, eh, hz, qE, q⟩ := h
  refine ⟨_, (pss_cons (ps_if (PW.pt (pw_and (pt_cmpR op_notN (pv 0) pe_non (nomark _)) (pw_and (pt_cmpR op_notN (pv 1) pe_non (nomark _)) (pw_and1 (pt_cmpR op_ge (pe_cc C_compare hr (by decide) (by rfl) (pa_cons (pv 0) (pa_cons (pv 1) pa_nil))) pe_int (nomark _)))))) (pss_one (L2N.ps_raise rfl (L2N.takes_of rfl rfl rfl rfl) (pmk_ox O_InvalidStretch hr (by decide) (by rfl) (pa_cons (pv 0) (pa_cons (pv 1) pa_nil))))) pss_nil)
 (PSs.nox (pss_cons (ps_set (i := 2) sc_between.nd rfl (Or.inl rfl) (pe_or (pe_cmpR op_isN (pv 0) pe_non (nomark _)) (pe_one (pe_cmpR op_lt (pe_ix (k_ixT (K := K) rfl) (pv 0) pe_int (fun _ _ => rfl)) pe_int (nomark _)))))
 (pss_cons (ps_set (i := 3) sc_between.nd rfl (Or.inl rfl) (pe_or (pe_cmpR op_isN (pv 1) pe_non (nomark _)) (pe_one (pe_cmpR op_gt (pe_ix (k_ixT (K := K) rfl) (pv 1) pe_int (fun _ _ => rfl)) pe_int (nomark _)))))
 (pss_cons (ps_if (PW.pt (pw_and (pt_val (pv 2)) (pw_and1 (pt_val (pv 3))))) (pss_one (ps_ret (pe_glob (v := .ref A_ZERO) (by rfl) G_ZERO rfl))) pss_nil)
 (pss_cons (ps_if (pt_val (pv 3)) (pss_cons (ps_set (i := 4) sc_between.nd rfl (Or.inl rfl) (pe_op op_add (pe_cc C_floor hr (by decide) (by rfl) (pa_cons (pv 0) pa_nil)) pe_int))
 (pss_cons (ps_if (PW.pt (pw_or (pt_cmpR op_isN (pv 1) pe_non (nomark _)) (pw_or1 (pt_cmpR op_lt (pe_op op_mulG (pv 4) (pe_ix (k_ixT (K := K) rfl) (pv 1) pe_int (fun _ _ => rfl))) (pe_ix (k_ixT (K := K) rfl) (pv 1) pe_int (fun _ _ => rfl)) (nomark _))))) (pss_one (ps_ret (pe_tup (pa_cons (pv 4) (pa_cons pe_int pa_nil))))) pss_nil)
 (pss_one (ps_ret (pe_cc C__inside hr (by decide) (by rfl) (pa_cons (pv 0) (pa_cons (pv 1) pa_nil))))))) pss_nil)
 (pss_cons (ps_set (i := 5) sc_between.nd rfl (Or.inl rfl) (pe_op op_sub (pe_un un_neg (pe_cc C_floor hr (by decide) (by rfl) (pa_cons (pe_tup (pa_cons (pe_un un_neg (pe_ix (k_ixT (K := K) rfl) (pv 1) pe_int (fun _ _ => rfl))) (pa_cons (pe_ix (k_ixT (K := K) rfl) (pv 1) pe_int (fun _ _ => rfl)) pa_nil))) pa_nil))) pe_int))
 (pss_cons (ps_if (PW.pt (pw_or (pt_cmpR op_isN (pv 0) pe_non (nomark _)) (pw_or1 (pt_cmpR op_lt (pe_ix (k_ixT (K := K) rfl) (pv 0) pe_int (fun _ _ => rfl)) (pe_op op_mulG (pv 5) (pe_ix (k_ixT (K := K) rfl) (pv 0) pe_int (fun _ _ => rfl))) (nomark _))))) (pss_one (ps_ret (pe_tup (pa_cons (pv 5) (pa_cons pe_int pa_nil))))) pss_nil)
 (pss_one (ps_ret (pe_cc C__inside hr (by decide) (by rfl) (pa_cons (pv 0) (pa_cons (pv 1) pa_nil))))))))))))), ?_⟩
  refine w_start (σ := [some _, some _, none, none, none, none]) rfl ?_
  walk_at "go"
  refine ⟨rfl, ?_⟩
  walk_at "go"
  cases lo with
  | none =>
    obtain rfl : l = .non := el
    have q := q (fun _ _ _ _ e => nomatch e)
    refine ite_F (by rw [nn_non]; rfl) ?_
    rw [if_neg (by decide)]
    walk_at "go"
    refine ⟨rfl, ?_⟩
    walk_at "go"
    refine ite_T nn_non ?_
    walk_at "go"
    walk_at "go"
    refine ⟨rfl, ?_⟩
    walk_at "go"
    cases hi with
    | none =>
      obtain rfl : h = .non := eh
      refine ite_T nn_non ?_
      walk_at "go"
      refine ite_t ?_
      walk_at "go"
      refine ite_t ?_
      walk_at "go"
      exact q A_ZERO 0 1 _ (Simp.zero trivial trivial) .refl (zz _)
    | some p =>
      obtain ⟨m, e⟩ := p
      obtain ⟨b, rfl, fb, e0, bm, be⟩ := eh
      refine ite_F nn_ref ?_
      walk_at "go"
      refine ite_t ?_
      walk_at "go"
      refine ite_d (fun h1 => ?_) (fun h1 => ?_)
      · walk_at "go"
        exact q A_ZERO 0 1 _ (Simp.zero trivial (show 0 * e < m * 1 by omega)) .refl (zz _)
      · walk_at "go"
        refine ite_df h1 ?_
        walk_at "go"
        refine w_newT (show 2 ≤ sizeLine by decide) fun t1 H1 n1 c1 h1 => ?_
        walk_at "go"
        refine ⟨t1, -m, e, z, rfl, .of h1, by omega, be, by omega, ?_⟩
        walk_at "go"
        walk_at "go"
        refine ⟨rfl, ?_⟩
        walk_at "go"
        refine ite_T nn_non ?_
        walk_at "go"
        refine ite_t ?_
        walk_at "go"
        refine w_newT (show 2 ≤ sizeLine by decide) fun t2 H2 n2 c2 h2 => ?_
        exact q t2 _ 1 H2 (Simp.great e0 (by omega) rfl trivial) (c1.trans c2) (.of h2)
  | some p =>
    obtain ⟨n, d⟩ := p
    obtain ⟨a, rfl, fa, d0, bn, bd⟩ := el
    refine ite_T (by rw [nn_ref]; rfl) ?_
    walk_at "go"
    refine ⟨rfl, ?_⟩
    walk_at "go"
    cases hi with
    | none =>
      obtain rfl : h = .non := eh
      have q := q (fun _ _ _ _ _ e => nomatch e)
      refine ite_F (by rw [nn_non]; rfl) ?_
      refine ite_f ?_
      walk_at "go"
      refine ⟨rfl, ?_⟩
      walk_at "go"
      refine ite_F nn_ref ?_
      walk_at "go"
      walk_at "go"
      refine ⟨rfl, ?_⟩
      walk_at "go"
      refine ite_T nn_non ?_
      walk_at "go"
      refine ite_d (fun h1 => ?_) (fun h1 => ?_)
      · walk_at "go"
        refine ite_t ?_
        walk_at "go"
        exact q A_ZERO 0 1 _ (Simp.zero (show n * 1 < 0 * d by omega) trivial) .refl (zz _)
      · refine ite_f ?_
        walk_at "go"
        refine ite_t ?_
        walk_at "go"
        refine ⟨a, n, d, z, rfl, fa, by omega, bd, by omega, ?_⟩
        walk_at "go"
        refine ⟨rfl, ?_⟩
        walk_at "go"
        refine ite_T nn_non ?_
        walk_at "go"
        refine ite_t ?_
        walk_at "go"
        refine w_newT (show 2 ≤ sizeLine by decide) fun t2 H2 n2 c2 h2 => ?_
        exact q t2 _ 1 H2 (Simp.least d0 (by omega) trivial) c2 (.of h2)
    | some p =>
      obtain ⟨m, e⟩ := p
      obtain ⟨b, rfl, fb, e0, bm, be⟩ := eh
      refine ite_T (by rw [nn_ref]; rfl) ?_
      walk_at "go"
      refine ⟨a, b, n, d, m, e, z, rfl, fa, fb, bn, bd, bm, be, by omega, ?_⟩
      walk_at "go"
      refine ite_d (fun h0 => ?_) (fun h0 => ?_)
      · have h0 := sgn_ge.mp h0
        refine w_mkO ?_
        walk_at "go"
        exact mk2_at fun dd H' c hx => qE n d m e rfl rfl (by omega) dd H' c hx
      have ne : n * e < m * d := by
        have := mt sgn_ge.mpr h0
        omega
      have q := q (fun n' d' m' e' x1 x2 => by cases x1; cases x2; exact ne)
      walk_at "go"
      refine ⟨rfl, ?_⟩
      walk_at "go"
      refine ite_F nn_ref ?_
      walk_at "go"
      walk_at "go"
      refine ⟨rfl, ?_⟩
      walk_at "go"
      refine ite_F nn_ref ?_
      walk_at "go"
      refine ite_d (fun h1 => ?_) (fun h1 => ?_)
      · walk_at "go"
        refine ite_d (fun h2 => ?_) (fun h2 => ?_)
        · walk_at "go"
          exact q A_ZERO 0 1 _ (Simp.zero (show n * 1 < 0 * d by omega) (show 0 * e < m * 1 by omega)) .refl (zz _)
        · walk_at "go"
          refine ite_df h2 ?_
          walk_at "go"
          refine w_newT (show 2 ≤ sizeLine by decide) fun t1 H1 n1 c1 h1 => ?_
          walk_at "go"
          refine ⟨t1, -m, e, z, rfl, .of h1, by omega, be, by omega, ?_⟩
          walk_at "go"
          have fa1 := c1.sqT fa
          walk_at "go"
          refine ⟨rfl, ?_⟩
          walk_at "go"
          refine ite_F nn_ref ?_
          walk_at "go"
          have bw : (-(-m).fdiv e - 1).natAbs < 2 ^ (z + 1) := by
            have := fdiv_abs (n := -m) e0
            rw [Nat.pow_succ]
            omega
          refine w_I (mul_ok bw bd (by omega)) ?_
          walk_at "go"
          refine ite_d (fun h3 => ?_) (fun h3 => ?_)
          · walk_at "go"
            refine w_newT (show 2 ≤ sizeLine by decide) fun t2 H2 n2 c2 h2 => ?_
            exact q t2 _ 1 H2 (Simp.great e0 (by omega) rfl (show n * 1 < (-(-m).fdiv e - 1) * d by omega)) (c1.trans c2) (.of h2)
          · walk_at "go"
            exact ⟨a, b, n, d, m, e, z, rfl, fa1, c1.sqT fb, d0, e0, ne, bn, bd, bm, be, hz, fun t X Y H2 y1 i1 i2 mn c2 ft => q t X Y H2 (Simp.deep y1 i1 i2 mn (no_neg d0 e0 rfl (by omega))) (c1.trans c2) ft⟩
      · refine ite_f ?_
        walk_at "go"
        refine ite_d (fun h2 => ?_) (fun h2 => ?_)
        · walk_at "go"
          refine ⟨a, n, d, z, rfl, fa, by omega, bd, by omega, ?_⟩
          walk_at "go"
          refine ⟨rfl, ?_⟩
          walk_at "go"
          refine ite_F nn_ref ?_
          walk_at "go"
          have bw : (n.fdiv d + 1).natAbs < 2 ^ (z + 1) := by
            have := fdiv_abs (n := n) d0
            rw [Nat.pow_succ]
            omega
          refine w_I (mul_ok bw be (by omega)) ?_
          walk_at "go"
          refine ite_d (fun h3 => ?_) (fun h3 => ?_)
          · walk_at "go"
            refine w_newT (show 2 ≤ sizeLine by decide) fun t2 H2 n2 c2 h2 => ?_
            exact q t2 _ 1 H2 (Simp.least d0 (by omega) (show (n.fdiv d + 1) * e < m * 1 by omega)) c2 (.of h2)
          · walk_at "go"
            exact ⟨a, b, n, d, m, e, z, rfl, fa, fb, d0, e0, ne, bn, bd, bm, be, hz, fun t X Y H2 y1 i1 i2 mn c2 ft => q t X Y H2 (Simp.deep y1 i1 i2 mn (no_pos d0 e0 (by omega))) c2 ft⟩
        · walk_at "go"
          walk_at "go"
          refine w_newT (show 2 ≤ sizeLine by decide) fun t1 H1 n1 c1 h1 => ?_
          walk_at "go"
          refine ⟨t1, -m, e, z, rfl, .of h1, by omega, be, by omega, ?_⟩
          walk_at "go"
          have fa1 := c1.sqT fa
          walk_at "go"
          refine ⟨rfl, ?_⟩
          walk_at "go"
          refine ite_F nn_ref ?_
          walk_at "go"
          have bw : (-(-m).fdiv e - 1).natAbs < 2 ^ (z + 1) := by
            have := fdiv_abs (n := -m) e0
            rw [Nat.pow_succ]
            omega
          refine w_I (mul_ok bw bd (by omega)) ?_
          walk_at "go"
          refine ite_d (fun h3 => ?_) (fun h3 => ?_)
          · walk_at "go"
            refine w_newT (show 2 ≤ sizeLine by decide) fun t2 H2 n2 c2 h2 => ?_
            exact q t2 _ 1 H2 (Simp.great e0 (by omega) rfl (show n * 1 < (-(-m).fdiv e - 1) * d by omega)) (c1.trans c2) (.of h2)
          · walk_at "go"
            exact ⟨a, b, n, d, m, e, z, rfl, fa1, c1.sqT fb, d0, e0, ne, bn, bd, bm, be, hz, fun t X Y H2 y1 i1 i2 mn c2 ft => q t X Y H2 (Simp.deep y1 i1 i2 mn (no_neg d0 e0 rfl (by omega))) (c1.trans c2) ft⟩
end
end My

namespace My
open PySem PySem.Spec PyProof.Rows L2
section
variable {P : Program} {w : World} {K : PySem.W.Frag} {mg : Str → Option Value} {base : Heap}
/-! ### _law_is_refused -/
abbrev s__law_is_refused : Stmt := topS 34
theorem sc__law_is_refused : FnScope ["low", "high", "failure"] ["low", "high"] (defScope s__law_is_refused) := ⟨rfl, rfl, rfl, by decide +kernel, rfl, by decide +kernel, by decide +kernel⟩
def sp__law_is_refused (K : PySem.W.Frag) : Sp := fun vs H Q _ => ∃ (a b : Addr) (n d m e : Int) (z : Nat), vs = [.ref a, .ref b] ∧ Fr K H a n d ∧ Fr K H b m e ∧ 0 < d ∧ 0 < e ∧ n.natAbs < 2 ^ z ∧ d.natAbs < 2 ^ z ∧ m.natAbs < 2 ^ z ∧ e.natAbs < 2 ^ z ∧ z ≤ 4000 ∧ m * d ≤ n * e ∧ ∀ H', Ch [] H H' → Q (.bl true) H'
theorem c__law_is_refused {A_InvalidStretch A_InvalidText A_DivisionByZero A_CellspireError : Addr} (T : Txt mg) (z_ValueError : mg "ValueError" = none) (G_InvalidStretch : mg "InvalidStretch" = some (.ref A_InvalidStretch)) (G_InvalidText : mg "InvalidText" = some (.ref A_InvalidText))
    (G_DivisionByZero : mg "DivisionByZero" = some (.ref A_DivisionByZero)) (G_CellspireError : mg "CellspireError" = some (.ref A_CellspireError)) (XC_InvalidStretch : ExcC K A_InvalidStretch)
    (NA_InvalidStretch_low : PySem.W.findIn K (.ref A_InvalidStretch) "low" = some none) (NA_InvalidStretch_high : PySem.W.findIn K (.ref A_InvalidStretch) "high" = some none)
    (e1 : PySem.W.exmOne K (.ref A_InvalidStretch) (.ref A_InvalidStretch) = some true) (e2 : PySem.W.kitOne K (.ref A_InvalidStretch) (.ref A_InvalidText) = some false) (e3 : PySem.W.kitOne K (.ref A_InvalidStretch) (.ref A_DivisionByZero) = some false)
    (e4 : PySem.W.kitOne K (.ref A_InvalidStretch) (.ref A_CellspireError) = some true) (e5 : PySem.W.kitOne K (.ref A_InvalidStretch) (.type "ValueError") = some true)
    (C_between : CalN P w K mg base 3 "between" (sp_between K A_InvalidStretch)) (H__law_same : CalH P w K mg base 2 "_law_same" (sp__law_same K)) {f : Addr} {fd : FuncData} (F : DefF K mg "_law_is_refused" s__law_is_refused ["low", "high"] f fd) :
    Cal P w K mg base 4 "_law_is_refused" (sp__law_is_refused K) := by
  refine cal_of F sc__law_is_refused (fun vs H Q E h => by obtain ⟨_, _, _, _, _, _, _, rfl, _⟩ := h; rfl) (fun cdv A outer s H vs Q E hr h => ?_)
  obtain ⟨a, b, n, d, m, e, z, rfl, ha, hb, hd, he, bn, bd, bm, be, hz, le, q⟩ := h
  refine ⟨_, (pss_cons (L2N.ps_try_as (i := 2) (Wout := fun _ _ _ _ => False) rfl rfl sc__law_is_refused.nd rfl rfl ⟨rfl, by decide, Or.inl G_InvalidStretch⟩ takesN0 (fun W pn xe tk _ => (pss_one (ps_expr (pe_ccSN C_between hr (by decide) (by rfl) tk (pa_cons (pv 0) (pa_cons (pv 1) pa_nil))))))
  (fun a oe cls d pn hz hf => (pss_cons (ps_if (PW.pt (pw_or (pt_not (pt_val (pe_ccH H__law_same (L2H.roomH_mark hr _) (by decide) (hot_suite hz hf) (by rfl) (pa_cons (pe_xf (xf_of XC_InvalidStretch) NA_InvalidStretch_low hz.zc hf (pv 2)) (pa_cons (pv 0) pa_nil))))) (pw_or1 (pt_not (pt_val (pe_ccH H__law_same (L2H.roomH_mark hr _) (by decide) (hot_suite hz hf) (by rfl) (pa_cons (pe_xf (xf_of XC_InvalidStretch) NA_InvalidStretch_high hz.zc hf (pv 2)) (pa_cons (pv 1) pa_nil)))))))) (pss_one (ps_ret pe_bl)) pss_nil)
 (pss_cons (ps_if (PW.pt (pw_or (pt_val (pe_callB (k_isY (K := K) rfl XC_InvalidStretch hz.zc hf) (by rfl) T.z_isinstance (by decide +kernel) (pa_cons (pv 2) (pa_cons (pe_glob (v := .ref A_InvalidText) (by rfl) G_InvalidText rfl) pa_nil)))) (pw_or1 (pt_val (pe_callB (k_isY (K := K) rfl XC_InvalidStretch hz.zc hf) (by rfl) T.z_isinstance (by decide +kernel) (pa_cons (pv 2) (pa_cons (pe_glob (v := .ref A_DivisionByZero) (by rfl) G_DivisionByZero rfl) pa_nil))))))) (pss_one (ps_ret pe_bl)) pss_nil)
 (pss_one (ps_ret (pe_and (pe_callB (k_isY (K := K) rfl XC_InvalidStretch hz.zc hf) (by rfl) T.z_isinstance (by decide +kernel) (pa_cons (pv 2) (pa_cons (pe_glob (v := .ref A_CellspireError) (by rfl) G_CellspireError rfl) pa_nil))) (pe_one (pe_callB (k_isY (K := K) rfl XC_InvalidStretch hz.zc hf) (by rfl) T.z_isinstance (by decide +kernel) (pa_cons (pv 2) (pa_cons (pe_bltn (by rfl) z_ValueError (by decide +kernel) (v := .ty "ValueError") rfl) pa_nil)))))))))))
 (pss_one (ps_ret pe_bl))), ?_⟩
  refine w_start (σ := [some _, some _, none]) rfl ?_
  walk_at "go"
  refine w_callS ?_
  walk_at "go"
  refine ⟨.ref a, .ref b, some (n, d), some (m, e), z, rfl, ⟨a, rfl, ha, hd, bn, bd⟩, ⟨b, rfl, hb, he, bm, be⟩, hz, fun n' d' m' e' x1 x2 _ dd H1 c1 hx => ?_, fun nem => absurd (nem n d m e rfl rfl) (by omega)⟩
  refine ⟨true, e1, fun _ x nx => ?_, fun h => nomatch h⟩
  have hsame : ∀ (p : List Int) (y : Addr) {Q' : VK}, SqT K H1 y (ivs p) → p.length ≤ 1000 → Q' (.bl true) H1 → sp__law_same K [.ref y, .ref y] H1 Q' E0 := fun p y Q' hy hl hq => ⟨y, y, p, p, rfl, hy, hy, hl, hl, by rw [decide_eq_true rfl]; exact hq⟩
  walk_at "go"
  refine w_callS ?_
  walk_at "go"
  refine w_xf ?_
  walk_at "go"
  refine ⟨rfl, rfl, dd, _, _, rfl, hx, rfl, ?_⟩
  walk_at "go"
  refine hsame [n, d] a (c1.sqT ha) (by simp) ?_
  walk_at "go"
  rw [if_neg (by decide)]
  walk_at "go"
  refine w_callS ?_
  walk_at "go"
  refine w_xf ?_
  walk_at "go"
  refine ⟨rfl, rfl, dd, _, _, rfl, hx, rfl, ?_⟩
  walk_at "go"
  refine hsame [m, e] b (c1.sqT hb) (by simp) ?_
  walk_at "go"
  rw [if_neg (by decide)]
  walk_at "go"
  refine w_isY (cv := .ref A_InvalidText) (.inr ⟨dd, _, rfl, hx⟩) (fun u r => r) e2 ?_
  walk_at "go"
  rw [if_neg (by decide)]
  walk_at "go"
  refine w_isY (cv := .ref A_DivisionByZero) (.inr ⟨dd, _, rfl, hx⟩) (fun u r => r) e3 ?_
  walk_at "go"
  rw [if_neg (by decide)]
  walk_at "go"
  refine w_isY (cv := .ref A_CellspireError) (.inr ⟨dd, _, rfl, hx⟩) (fun u r => r) e4 ?_
  walk_at "go"
  rw [if_pos rfl]
  walk_at "go"
  refine w_isY (cv := .type "ValueError") (.inr ⟨dd, _, rfl, hx⟩) (fun u r => r) e5 ?_
  exact q _ c1
/-! ### _law_inverse -/
abbrev s__law_inverse : Stmt := topS 27
theorem sc__law_inverse : FnScope ["top", "bottom", "one", "two", "left", "right", "turn", "part"] ["top", "bottom"] (defScope s__law_inverse) := ⟨rfl, rfl, rfl, by decide +kernel, rfl, by decide +kernel, by decide +kernel⟩
def sp__law_inverse : Sp := fun vs H Q _ => ∃ (x y : Int), vs = [.int x, .int y] ∧ 0 < y ∧ y.natAbs < 2 ^ 1998 ∧ Nat.gcd x.natAbs y.natAbs = 1 ∧ ∀ r : Int, 0 ≤ r → r < y → (∃ k : Int, r * x - 1 = k * y) → Q (.int r) H
theorem gcd_emod {x y : Int} (hy : 0 < y) (h : Nat.gcd x.natAbs y.natAbs = 1) : Nat.gcd (x % y).toNat y.toNat = 1 := by
  have h0 := Int.emod_nonneg x (show y ≠ 0 by omega)
  generalize hg : Nat.gcd (x % y).toNat y.toNat = g
  have d1 : (g : Int) ∣ x % y := Int.ofNat_dvd_left.mpr (by rw [← hg, show (x % y).natAbs = (x % y).toNat by omega]; exact Nat.gcd_dvd_left _ _)
  have d2 : (g : Int) ∣ y := Int.ofNat_dvd_left.mpr (by rw [← hg, show y.natAbs = y.toNat by omega]; exact Nat.gcd_dvd_right _ _)
  have d3 : (g : Int) ∣ x := by
    rw [← Int.mul_ediv_add_emod x y]
    exact Int.dvd_add (Int.dvd_trans d2 (Int.dvd_mul_right _ _)) d1
  have d4 := Nat.dvd_gcd (Int.ofNat_dvd_left.mp d3) (Int.ofNat_dvd_left.mp d2)
  rw [h] at d4
  exact Nat.dvd_one.mp d4
theorem c__law_inverse (T : Txt mg) {f : Addr} {fd : FuncData} (F : DefF K mg "_law_inverse" s__law_inverse ["top", "bottom"] f fd) : Cal P w K mg base 1 "_law_inverse" sp__law_inverse := by
  refine cal_of F sc__law_inverse (fun vs H Q E h => by obtain ⟨_, _, rfl, _⟩ := h; rfl) (fun cdv A outer s H vs Q E hr h => ?_)
  obtain ⟨x, y, rfl, hy, hb, hg, q⟩ := h
  refine ⟨_, (pss_cons (ps_set (i := 2) sc__law_inverse.nd rfl (Or.inl rfl) (pe_op op_mod (pe_callTy cb_int (by rfl) T.z_int (by decide +kernel) (pa_cons (pv 0) pa_nil)) (pv 1)))
 (pss_cons (ps_set (i := 3) sc__law_inverse.nd rfl (Or.inl rfl) (pv 1))
 (pss_cons (ps_set (i := 4) sc__law_inverse.nd rfl (Or.inl rfl) pe_int)
 (pss_cons (ps_set (i := 5) sc__law_inverse.nd rfl (Or.inl rfl) pe_int)
 (pss_cons (ps_for PassesOwn.never rfl (pi_range1 (by rfl) T.z_range (pa_cons pe_int pa_nil)) (pg_name (i := 6) sc__law_inverse.nd rfl (Or.inl rfl)) (pss_cons (ps_if (pt_cmpR op_eq (pv 3) pe_int (nomark _)) (pss_one ps_break) pss_nil)
 (pss_cons (ps_set (i := 7) sc__law_inverse.nd rfl (Or.inl rfl) (pe_op op_fdivG (pv 2) (pv 3)))
 (pss_cons (ps_par (i := 2) (j := 3) (by rfl) sc__law_inverse.nd rfl rfl (by decide) rfl rfl (pa_cons (pv 3) (pa_cons (pe_op op_sub (pv 2) (pe_op op_mulG (pv 7) (pv 3))) pa_nil)) (by rfl))
 (pss_one (ps_par (i := 4) (j := 5) (by rfl) sc__law_inverse.nd rfl rfl (by decide) rfl rfl (pa_cons (pv 5) (pa_cons (pe_op op_sub (pv 4) (pe_op op_mulG (pv 7) (pv 5))) pa_nil)) (by rfl)))))))
 (pss_one (ps_ret (pe_op op_mod (pe_callTy cb_int (by rfl) T.z_int (by decide +kernel) (pa_cons (pv 4) pa_nil)) (pv 1))))))))), ?_⟩
  refine w_start (σ := [some _, some _, none, none, none, none, none, none]) rfl ?_
  walk_at "go"
  refine w_mod hy ?_
  walk_at "go"
  refine w_iR1r (by omega) (by omega) ?_
  have h0 := Int.emod_nonneg x (show y ≠ 0 by omega)
  have h1 := Int.emod_lt_of_pos x hy
  have ex : x = y * (x / y) + x % y := (Int.mul_ediv_add_emod x y).symm
  have fin : ∀ (l k : Int), 1 = l * x + k * y → Q (.int (l % y)) H := fun l k e => by
    refine q _ (Int.emod_nonneg _ (by omega)) (Int.emod_lt_of_pos _ hy) ⟨-k - (l / y) * x, ?_⟩
    have el : l = y * (l / y) + l % y := (Int.mul_ediv_add_emod l y).symm
    have e3 : l * x = y * (l / y) * x + l % y * x := by
      conv => lhs; rw [el, Int.add_mul]
    have e4 : (-k - l / y * x) * y = -(k * y) - y * (l / y) * x := by
      rw [Int.sub_mul, Int.neg_mul, Int.mul_comm y (l / y), Int.mul_right_comm]
    rw [e4]
    omega
  refine for_R (n := 4000) (fun i σ H' => H' = H ∧ ∃ (X Y : Nat) (l r : Int) (z1 z2 : Option V), σ = [some (.int x), some (.int y), some (.int X), some (.int Y), some (.int l), some (.int r), z1, z2] ∧ Nat.gcd X Y = 1 ∧ Euc 1998 i X Y ∧ X < 2 ^ 1998 ∧ Y < 2 ^ 1998 ∧
    (∃ k : Int, (X : Int) = l * x + k * y) ∧ (∃ k : Int, (Y : Int) = r * x + k * y) ∧ l.natAbs < 2 ^ (2000 * i + 1) ∧ r.natAbs < 2 ^ (2000 * i + 1)) ⟨rfl, (x % y).toNat, y.toNat, 1, 0, none, none, ?_, ?_, ⟨fun _ => ?_, fun h => by omega⟩, by omega, by omega, ⟨-(x / y), ?_⟩, ⟨1, by omega⟩, by decide, by decide⟩ ?_ ?_
  · rw [Int.toNat_of_nonneg h0, Int.toNat_of_nonneg (by omega)]
    rfl
  · exact gcd_emod hy hg
  · simp only [Nat.zero_div, Nat.pow_zero, Nat.mul_one]
    omega
  · rw [Int.toNat_of_nonneg h0, Int.neg_mul, Int.mul_comm (x / y)]
    omega
  · rintro i σ H' hi ⟨rfl, X, Y, l, r, z1, z2, rfl, hgc, eu, bX, bY, ⟨k1, ek1⟩, ⟨k2, ek2⟩, bl, br⟩
    walk_at "go"
    refine ite_d (fun h2 => ?_) (fun h2 => ?_)
    · have hy0 : Y = 0 := by omega
      subst hy0
      rw [Nat.gcd_zero_right] at hgc
      subst hgc
      walk_at "go"
      refine w_mod hy ?_
      exact fin l k1 ek1
    · walk_at "go"
      have bY' : (Y : Int).natAbs < 2 ^ 1998 := by rw [Int.natAbs_natCast]; exact bY
      refine w_I (div_ok (by omega) bY' (by decide)) ?_
      have ed : (X : Int).fdiv Y = ((X / Y : Nat) : Int) := by
        rw [Int.fdiv_eq_ediv_of_nonneg _ (by omega)]
        rfl
      rw [ed]
      have bq : ((X / Y : Nat) : Int).natAbs < 2 ^ 1998 := by
        rw [Int.natAbs_natCast]
        exact Nat.lt_of_le_of_lt (Nat.div_le_self _ _) bX
      walk_at "go"
      refine w_I (mul_ok bq bY' (by omega)) ?_
      have em : (X : Int) - ((X / Y : Nat) : Int) * (Y : Int) = ((X % Y : Nat) : Int) := by
        have := Nat.div_add_mod X Y
        have e2 : ((X / Y : Nat) : Int) * (Y : Int) = ((Y * (X / Y) : Nat) : Int) := by rw [Int.natCast_mul, Int.mul_comm]
        rw [e2]
        omega
      refine w_I0 ?_
      rw [em]
      walk_at "go"
      refine w_I (mul_ok bq br (by omega)) ?_
      walk_at "go"
      refine ⟨rfl, Y, X % Y, r, l - ((X / Y : Nat) : Int) * r, _, _, rfl, ?_, eu.step (by omega), bY, Nat.lt_of_le_of_lt (Nat.mod_le _ _) bX, ⟨k2, ek2⟩, ⟨k1 - ((X / Y : Nat) : Int) * k2, ?_⟩, abs_mono br (by omega), ?_⟩
      · rw [← hgc, Nat.gcd_comm X Y, Nat.gcd_rec Y X, Nat.gcd_comm]
      · rw [← em, ek1]
        conv => lhs; rw [ek2]
        rw [Int.mul_add, Int.sub_mul, Int.sub_mul, Int.mul_assoc, Int.mul_assoc]
        omega
      · have m1 : (((X / Y : Nat) : Int) * r).natAbs < 2 ^ 1998 * 2 ^ (2000 * i + 1) := by
          rw [Int.natAbs_mul]
          exact Nat.mul_lt_mul'' bq br
        rw [← Nat.pow_add] at m1
        have p1 : 2 ^ (1998 + (2000 * i + 1)) ≤ 2 ^ (2000 * i + 2000) := Nat.pow_le_pow_right (by decide) (by omega)
        have p2 : 2 ^ (2000 * i + 1) ≤ 2 ^ (2000 * i + 2000) := Nat.pow_le_pow_right (by decide) (by omega)
        have p3 : 2 ^ (2000 * (i + 1) + 1) = 2 ^ (2000 * i + 2000) * 2 := by rw [← Nat.pow_succ]; rfl
        rw [p3]
        omega
  · rintro σ H' ⟨rfl, X, Y, l, r, z1, z2, rfl, hgc, eu, bX, bY, ⟨k1, ek1⟩, _⟩
    have hy0 := Euc.zero (L := 1998) eu
    subst hy0
    rw [Nat.gcd_zero_right] at hgc
    subst hgc
    walk_at "go"
    refine w_mod hy ?_
    exact fin l k1 ek1
end
end My

namespace My
open PySem PySem.Spec PyProof.Rows L2
theorem no_one {k Q : Int} (h : k * Q = -1) (hQ : 1 < Q) : False := by
  by_cases c : 0 ≤ k
  · have := Int.mul_nonneg c (show 0 ≤ Q by omega)
    omega
  · have := Int.mul_le_mul_of_nonneg_right (show k ≤ -1 by omega) (show 0 ≤ Q by omega)
    omega
theorem Simp.out {lo hi : Option (Int × Int)} {P Q : Int} (h : Simp lo hi P Q) {x y : Int} (h1 : 1 ≤ y) (h2 : y < Q) : ¬ (Abv x y lo ∧ Blw x y hi) := fun z => by
  have := h.mn x y h1 z.1 z.2
  omega
theorem mul_bd {x y : Int} {a b : Nat} (hx : x.natAbs < 2 ^ a) (hy : y.natAbs < 2 ^ b) : (x * y).natAbs < 2 ^ (a + b) := by
  rw [Int.natAbs_mul, Nat.pow_add]
  exact Nat.mul_lt_mul'' hx hy
theorem suc_bd {x y : Int} {a : Nat} (hx : x.natAbs < 2 ^ a) (hy : y.natAbs ≤ 1) : (x + y).natAbs < 2 ^ (a + 1) := by
  rw [Nat.pow_succ]
  omega
theorem add_bd {x y : Int} {a : Nat} (hx : x.natAbs < 2 ^ a) (hy : y.natAbs < 2 ^ a) : (x + y).natAbs < 2 ^ (a + 1) := by
  rw [Nat.pow_succ]
  omega
theorem sub_bd {x y : Int} {a : Nat} (hx : x.natAbs < 2 ^ a) (hy : y.natAbs < 2 ^ a) : (x - y).natAbs < 2 ^ (a + 1) := by
  rw [Nat.pow_succ]
  omega
theorem fdiv_nat {x d : Int} {a : Nat} (hd : 0 < d) (hx : x.natAbs < 2 ^ a) : (x.fdiv d).natAbs < 2 ^ a := by
  have := fdiv_abs (n := x) hd
  omega
section
variable {P : Program} {w : World} {K : PySem.W.Frag} {mg : Str → Option Value} {base : Heap}
theorem Simp.both {H : Hp} {z : Nat} {l h : V} {lo hi : Option (Int × Int)} {X Y : Int} (S : Simp lo hi X Y) (el : End K H z l lo) (eh : End K H z h hi) (hY : 1 < Y) :
    ∃ n d m e, lo = some (n, d) ∧ hi = some (m, e) := by
  have no : ∀ x : Int, Abv x 1 lo → Blw x 1 hi → False := fun x a b => by
    have := S.mn x 1 (by decide) a b
    omega
  cases lo with
  | none => cases hi with
    | none => exact (no 0 trivial trivial).elim
    | some p =>
      obtain ⟨m, e⟩ := p
      obtain ⟨_, _, _, e0, _⟩ := eh
      refine (no (-((m.natAbs : Int) + 1)) trivial ?_).elim
      show -((m.natAbs : Int) + 1) * e < m * 1
      have := le_mul_pos (show 0 ≤ (m.natAbs : Int) + 1 by omega) (show 1 ≤ e by omega)
      rw [Int.neg_mul]
      omega
  | some p =>
    obtain ⟨n, d⟩ := p
    cases hi with
    | none =>
      obtain ⟨_, _, _, d0, _⟩ := el
      refine (no ((n.natAbs : Int) + 1) ?_ trivial).elim
      show n * 1 < ((n.natAbs : Int) + 1) * d
      have := le_mul_pos (show 0 ≤ (n.natAbs : Int) + 1 by omega) (show 1 ≤ d by omega)
      omega
    | some p2 =>
      obtain ⟨m, e⟩ := p2
      exact ⟨n, d, m, e, rfl, rfl⟩
abbrev s__law_is_fraction : Stmt := topS 28
theorem sc__law_is_fraction : FnScope ["told"] ["told"] (defScope s__law_is_fraction) := ⟨rfl, rfl, rfl, by decide +kernel, rfl, by decide +kernel, by decide +kernel⟩
def sp__law_is_fraction (K : PySem.W.Frag) : Sp := fun vs H Q _ => ∃ (a : Addr) (n d : Int), vs = [.ref a] ∧ Fr K H a n d ∧ 1 ≤ d ∧ d.natAbs < 2 ^ 1998 ∧ Nat.gcd n.natAbs d.natAbs = 1 ∧ Q (.bl true) H
theorem c__law_is_fraction (T : Txt mg) (C__law_is_integer : Cal P w K mg base 1 "_law_is_integer" sp__law_is_integer) (C__law_gcd : Cal P w K mg base 1 "_law_gcd" sp__law_gcd) {f : Addr} {fd : FuncData} (F : DefF K mg "_law_is_fraction" s__law_is_fraction ["told"] f fd) :
    Cal P w K mg base 2 "_law_is_fraction" (sp__law_is_fraction K) := by
  refine cal_of F sc__law_is_fraction (fun vs H Q E h => by obtain ⟨_, _, _, rfl, _⟩ := h; rfl) (fun cdv A outer s H vs Q E hr h => ?_)
  obtain ⟨a, n, d, rfl, fa, d1, bd, hg, q⟩ := h
  refine ⟨_, (pss_cons (ps_if (PW.pt (pw_or (pt_not (pt_val (pe_callB (k_isi (K := K) rfl) (by rfl) T.z_isinstance (by decide +kernel) (pa_cons (pv 0) (pa_cons (pe_bltn (by rfl) T.z_tuple (by decide +kernel) (v := .ty "tuple") rfl) pa_nil))))) (pw_or1 (pt_cmpR op_ne (pe_callB (k_len (K := K) rfl) (by rfl) T.z_len PySem.boot_len (pa_cons (pv 0) pa_nil)) pe_int (nomark _))))) (pss_one (ps_ret pe_bl)) pss_nil)
 (pss_cons (ps_if (PW.pt (pw_or (pt_not (pt_val (pe_cc C__law_is_integer hr (by decide) (by rfl) (pa_cons (pe_ix (k_ixT (K := K) rfl) (pv 0) pe_int (fun _ _ => rfl)) pa_nil)))) (pw_or1 (pt_not (pt_val (pe_cc C__law_is_integer hr (by decide) (by rfl) (pa_cons (pe_ix (k_ixT (K := K) rfl) (pv 0) pe_int (fun _ _ => rfl)) pa_nil))))))) (pss_one (ps_ret pe_bl)) pss_nil)
 (pss_one (ps_ret (pe_and (pe_cmpR op_ge (pe_ix (k_ixT (K := K) rfl) (pv 0) pe_int (fun _ _ => rfl)) pe_int (nomark _)) (pe_one (pe_cmpR op_eq (pe_cc C__law_gcd hr (by decide) (by rfl) (pa_cons (pe_ix (k_ixT (K := K) rfl) (pv 0) pe_int (fun _ _ => rfl)) (pa_cons (pe_ix (k_ixT (K := K) rfl) (pv 0) pe_int (fun _ _ => rfl)) pa_nil))) pe_int (nomark _)))))))), ?_⟩
  refine w_start (σ := [some _]) rfl ?_
  walk_at "go"
  refine w_isiTT fa ?_
  walk_at "go"
  rw [if_neg (by decide)]
  walk_at "go"
  refine w_lenTi fa ?_
  walk_at "go"
  refine ite_ndf rfl ?_
  walk_at "go"
  refine ⟨_, rfl, ?_⟩
  walk_at "go"
  rw [if_neg (by decide)]
  walk_at "go"
  refine ⟨_, rfl, ?_⟩
  walk_at "go"
  rw [if_neg (by decide)]
  walk_at "go"
  rw [decide_eq_true d1, if_pos rfl]
  walk_at "go"
  refine ⟨n, d, rfl, bd, ?_⟩
  walk_at "go"
  rw [hg, decide_eq_true (show ((1 : Nat) : Int) = 1 from rfl)]
  exact q
abbrev s__law_whole_is_simplest : Stmt := topS 29
theorem sc__law_whole_is_simplest : FnScope ["top", "low", "high"] ["top", "low", "high"] (defScope s__law_whole_is_simplest) := ⟨rfl, rfl, rfl, by decide +kernel, rfl, by decide +kernel, by decide +kernel⟩
def sp__law_whole_is_simplest (K : PySem.W.Frag) : Sp := fun vs H Q _ => ∃ (x : Int) (l h : V) (lo hi : Option (Int × Int)) (z : Nat), vs = [.int x, l, h] ∧ End K H z l lo ∧ End K H z h hi ∧ x.natAbs < 2 ^ z ∧ 2 ≤ z ∧ z ≤ 4000 ∧ (∀ y : Int, Abv y 1 lo → Blw y 1 hi → x.natAbs ≤ y.natAbs) ∧ Q (.bl true) H
theorem c__law_whole_is_simplest (C__law_inside : Cal P w K mg base 1 "_law_inside" (sp__law_inside K)) {f : Addr} {fd : FuncData} (F : DefF K mg "_law_whole_is_simplest" s__law_whole_is_simplest ["top", "low", "high"] f fd) :
    Cal P w K mg base 2 "_law_whole_is_simplest" (sp__law_whole_is_simplest K) := by
  refine cal_of F sc__law_whole_is_simplest (fun vs H Q E h => by obtain ⟨_, _, _, _, _, _, rfl, _⟩ := h; rfl) (fun cdv A outer s H vs Q E hr h => ?_)
  obtain ⟨x, l, h, lo, hi, z, rfl, el, eh, bx, z2, hz, hw, q⟩ := h
  refine ⟨_, (pss_cons (ps_if (pt_cmpR op_gt (pv 0) pe_int (nomark _)) (pss_one (ps_ret (pe_not (pe_cc C__law_inside hr (by decide) (by rfl) (pa_cons (pe_op op_sub (pv 0) pe_int) (pa_cons pe_int (pa_cons (pv 1) (pa_cons (pv 2) pa_nil)))))))) pss_nil)
 (pss_cons (ps_if (pt_cmpR op_lt (pv 0) pe_int (nomark _)) (pss_one (ps_ret (pe_not (pe_cc C__law_inside hr (by decide) (by rfl) (pa_cons (pe_op op_add (pv 0) pe_int) (pa_cons pe_int (pa_cons (pv 1) (pa_cons (pv 2) pa_nil)))))))) pss_nil)
 (pss_one (ps_ret pe_bl)))), ?_⟩
  refine w_start (σ := [some _, some _, some _]) rfl ?_
  have one : (1 : Int).natAbs < 2 ^ (z + 1) := Nat.lt_of_lt_of_le (show 1 < 2 ^ 1 by decide) (Nat.pow_le_pow_right (by decide) (by omega))
  have no : ∀ y : Int, y.natAbs < x.natAbs → ¬ (Abv y 1 lo ∧ Blw y 1 hi) := fun y hy c => by
    have := hw y c.1 c.2
    omega
  walk_at "go"
  refine ite_d (fun h0 => ?_) (fun h0 => ?_)
  · walk_at "go"
    refine ⟨x - 1, 1, l, h, lo, hi, z + 1, rfl, el.mono (by omega), eh.mono (by omega), suc_bd (y := -1) bx (by decide), one, by omega, ?_⟩
    rw [decide_eq_false (no (x - 1) (by omega))]
    exact ⟨_, rfl, q⟩
  · walk_at "go"
    refine ite_d (fun h1 => ?_) (fun h1 => ?_)
    · walk_at "go"
      refine ⟨x + 1, 1, l, h, lo, hi, z + 1, rfl, el.mono (by omega), eh.mono (by omega), suc_bd (y := 1) bx (by decide), one, by omega, ?_⟩
      rw [decide_eq_false (no (x + 1) (by omega))]
      exact ⟨_, rfl, q⟩
    · walk_at "go"
      exact q
abbrev s__law_parents_are_outside : Stmt := topS 30
theorem sc__law_parents_are_outside : FnScope ["top", "bottom", "low", "high", "left_bottom", "left_top"] ["top", "bottom", "low", "high"] (defScope s__law_parents_are_outside) := ⟨rfl, rfl, rfl, by decide +kernel, rfl, by decide +kernel, by decide +kernel⟩
def sp__law_parents_are_outside (K : PySem.W.Frag) : Sp := fun vs H Q _ => ∃ (X Y : Int) (l h : V) (lo hi : Option (Int × Int)), vs = [.int X, .int Y, l, h] ∧ End K H 1000 l lo ∧ End K H 1000 h hi ∧ X.natAbs < 2 ^ 1000 ∧ Y.natAbs < 2 ^ 1000 ∧ Simp lo hi X Y ∧ 1 < Y ∧ Q (.bl true) H
theorem c__law_parents_are_outside (C__law_inside : Cal P w K mg base 1 "_law_inside" (sp__law_inside K)) (C__law_inverse : Cal P w K mg base 1 "_law_inverse" sp__law_inverse) {f : Addr} {fd : FuncData} (F : DefF K mg "_law_parents_are_outside" s__law_parents_are_outside ["top", "bottom", "low", "high"] f fd) :
    Cal P w K mg base 2 "_law_parents_are_outside" (sp__law_parents_are_outside K) := by
  refine cal_of F sc__law_parents_are_outside (fun vs H Q E h => by obtain ⟨_, _, _, _, _, _, rfl, _⟩ := h; rfl) (fun cdv A outer s H vs Q E hr h => ?_)
  obtain ⟨X, Y, l, h, lo, hi, rfl, el, eh, bX, bY, S, hY, q⟩ := h
  refine ⟨_, (pss_cons (ps_set (i := 4) sc__law_parents_are_outside.nd rfl (Or.inl rfl) (pe_cc C__law_inverse hr (by decide) (by rfl) (pa_cons (pv 0) (pa_cons (pv 1) pa_nil))))
 (pss_cons (ps_set (i := 5) sc__law_parents_are_outside.nd rfl (Or.inl rfl) (pe_op op_fdivG (pe_op op_sub (pe_op op_mulG (pv 0) (pv 4)) pe_int) (pv 1)))
 (pss_cons (ps_if (pt_val (pe_cc C__law_inside hr (by decide) (by rfl) (pa_cons (pv 5) (pa_cons (pv 4) (pa_cons (pv 2) (pa_cons (pv 3) pa_nil)))))) (pss_one (ps_ret pe_bl)) pss_nil)
 (pss_one (ps_ret (pe_not (pe_cc C__law_inside hr (by decide) (by rfl) (pa_cons (pe_op op_sub (pv 0) (pv 5)) (pa_cons (pe_op op_sub (pv 1) (pv 4)) (pa_cons (pv 2) (pa_cons (pv 3) pa_nil))))))))))), ?_⟩
  refine w_start (σ := [some _, some _, some _, some _, none, none]) rfl ?_
  walk_at "go"
  refine ⟨X, Y, rfl, by omega, abs_mono bY (by decide), S.cop, fun r r0 r1 hk => ?_⟩
  have r2 : 1 ≤ r := by
    obtain ⟨k, ek⟩ := hk
    by_cases c : r = 0
    · rw [c] at ek
      exact (no_one (k := k) (Q := Y) (by omega) hY).elim
    · omega
  have br : r.natAbs < 2 ^ 1000 := by omega
  walk_at "go"
  refine w_I (mul_ok bX br (by decide)) ?_
  walk_at "go"
  refine w_I (div_ok (by omega) bY (by decide)) ?_
  have bt : ((X * r - 1).fdiv Y).natAbs < 2 ^ 2001 := fdiv_nat (by omega) (suc_bd (y := -1) (mul_bd bX br) (by decide))
  generalize (X * r - 1).fdiv Y = t at bt ⊢
  walk_at "go"
  refine ⟨t, r, l, h, lo, hi, 3000, rfl, el.mono (by decide), eh.mono (by decide), abs_mono bt (by decide), abs_mono br (by decide), by decide, ?_⟩
  rw [decide_eq_false (S.out r2 r1)]
  walk_at "go"
  rw [if_neg (by decide)]
  walk_at "go"
  refine ⟨X - t, Y - r, l, h, lo, hi, 3000, rfl, el.mono (by decide), eh.mono (by decide), abs_mono (sub_bd (abs_mono bX (by decide)) bt) (by decide), abs_mono (sub_bd bY br) (by decide), by decide, ?_⟩
  rw [decide_eq_false (S.out (x := X - t) (y := Y - r) (by omega) (by omega))]
  exact ⟨_, rfl, q⟩
abbrev s__law_none_over : Stmt := topS 31
theorem sc__law_none_over : FnScope ["bottom", "low", "high", "top"] ["bottom", "low", "high"] (defScope s__law_none_over) := ⟨rfl, rfl, rfl, by decide +kernel, rfl, by decide +kernel, by decide +kernel⟩
def sp__law_none_over (K : PySem.W.Frag) : Sp := fun vs H Q _ => ∃ (y : Int) (l h : V) (n d m e X Y : Int), vs = [.int y, l, h] ∧ End K H 1000 l (some (n, d)) ∧ End K H 1000 h (some (m, e)) ∧ Simp (some (n, d)) (some (m, e)) X Y ∧ 1 ≤ y ∧ y < Y ∧ y.natAbs < 2 ^ 1000 ∧ Q (.bl true) H
theorem c__law_none_over {f : Addr} {fd : FuncData} (F : DefF K mg "_law_none_over" s__law_none_over ["bottom", "low", "high"] f fd) : Cal P w K mg base 1 "_law_none_over" (sp__law_none_over K) := by
  refine cal_of F sc__law_none_over (fun vs H Q E h => by obtain ⟨_, _, _, _, _, _, _, _, _, rfl, _⟩ := h; rfl) (fun cdv A outer s H vs Q E hr h => ?_)
  obtain ⟨y, l, h, n, d, m, e, X, Y, rfl, ⟨a, rfl, fa, d0, bn, bd⟩, ⟨b, rfl, fb, e0, bm, be⟩, S, y1, y2, by', q⟩ := h
  refine ⟨_, (pss_cons (ps_set (i := 3) sc__law_none_over.nd rfl (Or.inl rfl) (pe_op op_add (pe_op op_fdivG (pe_op op_mulG (pe_ix (k_ixT (K := K) rfl) (pv 1) pe_int (fun _ _ => rfl)) (pv 0)) (pe_ix (k_ixT (K := K) rfl) (pv 1) pe_int (fun _ _ => rfl))) pe_int))
 (pss_one (ps_ret (pe_cmpR op_ge (pe_op op_mulG (pv 3) (pe_ix (k_ixT (K := K) rfl) (pv 2) pe_int (fun _ _ => rfl))) (pe_op op_mulG (pe_ix (k_ixT (K := K) rfl) (pv 2) pe_int (fun _ _ => rfl)) (pv 0)) (nomark _))))), ?_⟩
  refine w_start (σ := [some _, some _, some _, none]) rfl ?_
  walk_at "go"
  refine w_I (mul_ok bn by' (by decide)) ?_
  walk_at "go"
  refine w_I (div_ok (by omega) bd (by decide)) ?_
  obtain ⟨w1, w2⟩ := fdiv_bd (n := n * y) d0
  have bt : ((n * y).fdiv d + 1).natAbs < 2 ^ 2001 := suc_bd (fdiv_nat d0 (mul_bd bn by')) (by decide)
  walk_at "go"
  refine w_I (mul_ok bt be (by decide)) ?_
  walk_at "go"
  refine w_I (mul_ok bm by' (by decide)) ?_
  walk_at "go"
  rw [decide_eq_true]
  · exact q
  · by_cases c : m * y ≤ ((n * y).fdiv d + 1) * e
    · exact c
    · exact absurd ⟨w2, (by omega : ((n * y).fdiv d + 1) * e < m * y)⟩ (S.out y1 y2)
end
end My

namespace My
open PySem PySem.Spec PyProof.Rows L2
section
variable {P : Program} {w : World} {K : PySem.W.Frag} {mg : Str → Option Value} {base : Heap}
abbrev s__law_lesser_are_outside : Stmt := topS 32
theorem sc__law_lesser_are_outside : FnScope ["tries", "told", "low", "high", "size", "bottom", "turn"] ["tries", "told", "low", "high"] (defScope s__law_lesser_are_outside) := ⟨rfl, rfl, rfl, by decide +kernel, rfl, by decide +kernel, by decide +kernel⟩
def sp__law_lesser_are_outside (K : PySem.W.Frag) : Sp := fun vs H Q _ => ∃ (b t : Addr) (l h : V) (lo hi : Option (Int × Int)) (X Y : Int), vs = [.ref b, .ref t, l, h] ∧ RB H b ∧ Fr K H t X Y ∧ End K H 1000 l lo ∧ End K H 1000 h hi ∧ X.natAbs < 2 ^ 1000 ∧ Y.natAbs < 2 ^ 1000 ∧ Simp lo hi X Y ∧
  ∀ H', Ch [b] H H' → RB H' b → Q (.bl true) H'
theorem c__law_lesser_are_outside (T : Txt mg) (C__law_inside : Cal P w K mg base 1 "_law_inside" (sp__law_inside K)) (C__law_limbs : Cal P w K mg base 2 "_law_limbs" sp__law_limbs) (C__law_none_over : Cal P w K mg base 1 "_law_none_over" (sp__law_none_over K))
    {f : Addr} {fd : FuncData} (F : DefF K mg "_law_lesser_are_outside" s__law_lesser_are_outside ["tries", "told", "low", "high"] f fd) : Cal P w K mg base 3 "_law_lesser_are_outside" (sp__law_lesser_are_outside K) := by
  refine cal_of F sc__law_lesser_are_outside (fun vs H Q E h => by obtain ⟨_, _, _, _, _, _, _, _, rfl, _⟩ := h; rfl) (fun cdv A outer s H vs Q E hr h => ?_)
  obtain ⟨b, t, l, h, lo, hi, X, Y, rfl, B, ft, el, eh, bX, bY, S, q⟩ := h
  refine ⟨_, (pss_cons (ps_if (pt_cmpR op_eq (pe_ix (k_ixT (K := K) rfl) (pv 1) pe_int (fun _ _ => rfl)) pe_int (nomark _)) (pss_cons (ps_for PassesOwn.never rfl (pi_range1 (by rfl) T.z_range (pa_cons (pe_callB (cb_min2 rfl) (by rfl) T.z_min (by decide +kernel) (pa_cons (pe_callB cb_abs (by rfl) T.z_abs (by decide +kernel) (pa_cons (pe_ix (k_ixT (K := K) rfl) (pv 1) pe_int (fun _ _ => rfl)) pa_nil)) (pa_cons pe_int pa_nil))) pa_nil)) (pg_name (i := 4) sc__law_lesser_are_outside.nd rfl (Or.inl rfl)) (pss_one (ps_if (PW.pt (pw_or (pt_val (pe_cc C__law_inside hr (by decide) (by rfl) (pa_cons (pv 4) (pa_cons pe_int (pa_cons (pv 2) (pa_cons (pv 3) pa_nil)))))) (pw_or1 (pt_val (pe_cc C__law_inside hr (by decide) (by rfl) (pa_cons (pe_un un_neg (pv 4)) (pa_cons pe_int (pa_cons (pv 2) (pa_cons (pv 3) pa_nil))))))))) (pss_one (ps_ret pe_bl)) pss_nil)))
 (pss_cons (ps_if (pt_cmpR op_ne (pe_ix (k_ixT (K := K) rfl) (pv 1) pe_int (fun _ _ => rfl)) pe_int (nomark _)) (pss_cons (ps_set (i := 4) sc__law_lesser_are_outside.nd rfl (Or.inl rfl) (pe_op op_mod (pe_callTy cb_int (by rfl) T.z_int (by decide +kernel) (pa_cons (pe_cc C__law_limbs hr (by decide) (by rfl) (pa_cons (pv 0) (pa_cons pe_int pa_nil))) pa_nil)) (pe_callB cb_abs (by rfl) T.z_abs (by decide +kernel) (pa_cons (pe_ix (k_ixT (K := K) rfl) (pv 1) pe_int (fun _ _ => rfl)) pa_nil))))
 (pss_one (ps_ret (pe_and (pe_not (pe_cc C__law_inside hr (by decide) (by rfl) (pa_cons (pv 4) (pa_cons pe_int (pa_cons (pv 2) (pa_cons (pv 3) pa_nil)))))) (pe_one (pe_not (pe_cc C__law_inside hr (by decide) (by rfl) (pa_cons (pe_un un_neg (pv 4)) (pa_cons pe_int (pa_cons (pv 2) (pa_cons (pv 3) pa_nil))))))))))) pss_nil)
 (pss_one (ps_ret pe_bl)))) pss_nil)
 (pss_cons (ps_for PassesOwn.never rfl (pi_range2 (by rfl) T.z_range (pa_cons pe_int (pa_cons (pe_callB (cb_min2 rfl) (by rfl) T.z_min (by decide +kernel) (pa_cons (pe_ix (k_ixT (K := K) rfl) (pv 1) pe_int (fun _ _ => rfl)) (pa_cons pe_int pa_nil))) pa_nil))) (pg_name (i := 5) sc__law_lesser_are_outside.nd rfl (Or.inl rfl)) (pss_one (ps_if (pt_not (pt_val (pe_cc C__law_none_over hr (by decide) (by rfl) (pa_cons (pv 5) (pa_cons (pv 2) (pa_cons (pv 3) pa_nil)))))) (pss_one (ps_ret pe_bl)) pss_nil)))
 (pss_cons (ps_for PassesOwn.never rfl (pi_range1 (by rfl) T.z_range (pa_cons pe_int pa_nil)) (pg_name (i := 6) sc__law_lesser_are_outside.nd rfl (Or.inl rfl)) (pss_one (ps_if (pt_not (pt_val (pe_cc C__law_none_over hr (by decide) (by rfl) (pa_cons (pe_op op_add pe_int (pe_op op_mod (pe_callTy cb_int (by rfl) T.z_int (by decide +kernel) (pa_cons (pe_cc C__law_limbs hr (by decide) (by rfl) (pa_cons (pv 0) (pa_cons pe_int pa_nil))) pa_nil)) (pe_op op_sub (pe_ix (k_ixT (K := K) rfl) (pv 1) pe_int (fun _ _ => rfl)) pe_int))) (pa_cons (pv 2) (pa_cons (pv 3) pa_nil)))))) (pss_one (ps_ret pe_bl)) pss_nil)))
 (pss_one (ps_ret pe_bl))))), ?_⟩
  refine w_start (σ := [some _, some _, some _, some _, none, none, none]) rfl ?_
  have q1 := S.q1
  walk_at "go"
  refine ite_d (fun h0 => ?_) (fun h0 => ?_)
  · have no : ∀ y : Int, y.natAbs < X.natAbs → ¬ (Abv y 1 lo ∧ Blw y 1 hi) := fun y hy c => by
      have := S.wh h0 y c.1 c.2
      omega
    have ins : ∀ (y : Int) (H1 : Hp) {Q' : VK}, Ch [b] H H1 → y.natAbs < X.natAbs → Q' (.bl false) H1 → sp__law_inside K [.int y, .int 1, l, h] H1 Q' E0 := fun y H1 Q' c hy hq =>
      ⟨y, 1, l, h, lo, hi, 1000, rfl, el.ch c, eh.ch c, by omega, by decide +kernel, by decide, by rw [decide_eq_false (no y hy)]; exact hq⟩
    walk_at "go"
    refine w_iR1r (by split <;> omega) (by split <;> omega) ?_
    refine for_R (n := (if (40 : Int) < (X.natAbs : Int) then (40 : Int) else X.natAbs).toNat) (fun i σ H' => H' = H ∧ ∃ z, σ = [some (.ref b), some (.ref t), some l, some h, z, none, none]) ⟨rfl, none, rfl⟩ ?_ ?_
    · rintro i σ H' hi' ⟨rfl, z, rfl⟩
      have lt : ((0 : Int) + (i : Int)).natAbs < X.natAbs := by
        split at hi' <;> omega
      walk_at "go"
      refine ins _ _ .refl lt ?_
      walk_at "go"
      rw [if_neg (by decide)]
      walk_at "go"
      refine ins _ _ .refl (by omega) ?_
      walk_at "go"
      rw [if_neg (by decide)]
      exact ⟨rfl, _, rfl⟩
    · rintro σ H' ⟨rfl, z, rfl⟩
      walk_at "go"
      refine ite_nd (fun h1 => ?_) (fun h1 => ?_)
      · walk_at "go"
        refine ⟨b, 9, rfl, B, by decide, by decide, fun r H1 r0 r1 c1 B1 => ?_⟩
        have ft1 := c1.sqT ft
        walk_at "go"
        refine w_mod (by omega) ?_
        have m0 := Int.emod_nonneg r (show (X.natAbs : Int) ≠ 0 by omega)
        have m1 := Int.emod_lt_of_pos r (show (0 : Int) < (X.natAbs : Int) by omega)
        generalize r % (X.natAbs : Int) = y at m0 m1 ⊢
        walk_at "go"
        refine ins _ _ c1 (by omega) ?_
        walk_at "go"
        refine ite_T rfl ?_
        walk_at "go"
        refine ins _ _ c1 (by omega) ?_
        exact ⟨_, rfl, q _ c1 B1⟩
      · walk_at "go"
        exact q _ .refl B
  · have hY : 1 < Y := by omega
    obtain ⟨n, d, m, e, rfl, rfl⟩ := S.both el eh hY
    walk_at "go"
    refine w_iR2r ⟨by decide, by decide, by split <;> omega, by split <;> omega⟩ ?_
    refine for_R (n := ((if (80 : Int) < Y then (80 : Int) else Y) - 1).toNat) (fun i σ H' => H' = H ∧ ∃ z, σ = [some (.ref b), some (.ref t), some l, some h, none, z, none]) ⟨rfl, none, rfl⟩ ?_ ?_
    · rintro i σ H' hi' ⟨rfl, z, rfl⟩
      have lt : (1 : Int) + (i : Int) < Y := by
        split at hi' <;> omega
      walk_at "go"
      refine ⟨1 + (i : Int), l, h, n, d, m, e, X, Y, rfl, el, eh, S, by omega, lt, by omega, ?_⟩
      walk_at "go"
      rw [if_neg (by decide)]
      exact ⟨rfl, _, rfl⟩
    · rintro σ H' ⟨rfl, z, rfl⟩
      walk_at "go"
      refine w_iR1r (by decide) (by decide) ?_
      refine for_R (n := 2) (fun i σ H1 => Ch [b] H' H1 ∧ RB H1 b ∧ ∃ z2, σ = [some (.ref b), some (.ref t), some l, some h, none, z, z2]) ⟨.refl, B, none, rfl⟩ ?_ ?_
      · rintro i σ H1 hi' ⟨c1, B1, z2, rfl⟩
        walk_at "go"
        refine ⟨b, 9, rfl, B1, by decide, by decide, fun r H2 r0 r1 c2 B2 => ?_⟩
        have c12 := c1.trans c2
        have ft2 := c12.sqT ft
        walk_at "go"
        refine w_mod (by omega) ?_
        have m0 := Int.emod_nonneg r (show Y - 1 ≠ 0 by omega)
        have m1 := Int.emod_lt_of_pos r (show 0 < Y - 1 by omega)
        generalize r % (Y - 1) = y at m0 m1 ⊢
        walk_at "go"
        refine ⟨1 + y, l, h, n, d, m, e, X, Y, rfl, el.ch c12, eh.ch c12, S, by omega, by omega, by omega, ?_⟩
        walk_at "go"
        rw [if_neg (by decide)]
        exact ⟨c12, B2, _, rfl⟩
      · rintro σ H1 ⟨c1, B1, z2, rfl⟩
        walk_at "go"
        exact q _ c1 B1
abbrev s__law_is_simplest : Stmt := topS 33
theorem sc__law_is_simplest : FnScope ["tries", "told", "low", "high"] ["tries", "told", "low", "high"] (defScope s__law_is_simplest) := ⟨rfl, rfl, rfl, by decide +kernel, rfl, by decide +kernel, by decide +kernel⟩
def sp__law_is_simplest (K : PySem.W.Frag) : Sp := fun vs H Q _ => ∃ (b t : Addr) (l h : V) (lo hi : Option (Int × Int)) (X Y : Int), vs = [.ref b, .ref t, l, h] ∧ RB H b ∧ Fr K H t X Y ∧ End K H 1000 l lo ∧ End K H 1000 h hi ∧ X.natAbs < 2 ^ 1000 ∧ Y.natAbs < 2 ^ 1000 ∧ Simp lo hi X Y ∧
  ∀ H', Ch [b] H H' → RB H' b → Q (.bl true) H'
theorem c__law_is_simplest (C__law_inside : Cal P w K mg base 1 "_law_inside" (sp__law_inside K)) (C__law_is_fraction : Cal P w K mg base 2 "_law_is_fraction" (sp__law_is_fraction K)) (C__law_whole_is_simplest : Cal P w K mg base 2 "_law_whole_is_simplest" (sp__law_whole_is_simplest K))
    (C__law_parents_are_outside : Cal P w K mg base 2 "_law_parents_are_outside" (sp__law_parents_are_outside K)) (C__law_lesser_are_outside : Cal P w K mg base 3 "_law_lesser_are_outside" (sp__law_lesser_are_outside K))
    {f : Addr} {fd : FuncData} (F : DefF K mg "_law_is_simplest" s__law_is_simplest ["tries", "told", "low", "high"] f fd) : Cal P w K mg base 4 "_law_is_simplest" (sp__law_is_simplest K) := by
  refine cal_of F sc__law_is_simplest (fun vs H Q E h => by obtain ⟨_, _, _, _, _, _, _, _, rfl, _⟩ := h; rfl) (fun cdv A outer s H vs Q E hr h => ?_)
  obtain ⟨b, t, l, h, lo, hi, X, Y, rfl, B, ft, el, eh, bX, bY, S, q⟩ := h
  refine ⟨_, (pss_cons (ps_if (PW.pt (pw_or (pt_not (pt_val (pe_cc C__law_is_fraction hr (by decide) (by rfl) (pa_cons (pv 1) pa_nil)))) (pw_or1 (pt_not (pt_val (pe_cc C__law_inside hr (by decide) (by rfl) (pa_cons (pe_ix (k_ixT (K := K) rfl) (pv 1) pe_int (fun _ _ => rfl)) (pa_cons (pe_ix (k_ixT (K := K) rfl) (pv 1) pe_int (fun _ _ => rfl)) (pa_cons (pv 2) (pa_cons (pv 3) pa_nil)))))))))) (pss_one (ps_ret pe_bl)) pss_nil)
 (pss_cons (ps_if (PW.pt (pw_and (pt_cmpR op_eq (pe_ix (k_ixT (K := K) rfl) (pv 1) pe_int (fun _ _ => rfl)) pe_int (nomark _)) (pw_and1 (pt_not (pt_val (pe_cc C__law_whole_is_simplest hr (by decide) (by rfl) (pa_cons (pe_ix (k_ixT (K := K) rfl) (pv 1) pe_int (fun _ _ => rfl)) (pa_cons (pv 2) (pa_cons (pv 3) pa_nil))))))))) (pss_one (ps_ret pe_bl)) pss_nil)
 (pss_cons (ps_if (PW.pt (pw_and (pt_cmpR op_gt (pe_ix (k_ixT (K := K) rfl) (pv 1) pe_int (fun _ _ => rfl)) pe_int (nomark _)) (pw_and1 (pt_not (pt_val (pe_cc C__law_parents_are_outside hr (by decide) (by rfl) (pa_cons (pe_ix (k_ixT (K := K) rfl) (pv 1) pe_int (fun _ _ => rfl)) (pa_cons (pe_ix (k_ixT (K := K) rfl) (pv 1) pe_int (fun _ _ => rfl)) (pa_cons (pv 2) (pa_cons (pv 3) pa_nil)))))))))) (pss_one (ps_ret pe_bl)) pss_nil)
 (pss_one (ps_ret (pe_cc C__law_lesser_are_outside hr (by decide) (by rfl) (pa_cons (pv 0) (pa_cons (pv 1) (pa_cons (pv 2) (pa_cons (pv 3) pa_nil)))))))))), ?_⟩
  refine w_start (σ := [some _, some _, some _, some _]) rfl ?_
  have q1 := S.q1
  have fin : sp__law_lesser_are_outside K [.ref b, .ref t, l, h] H Q E0 := ⟨b, t, l, h, lo, hi, X, Y, rfl, B, ft, el, eh, bX, bY, S, q⟩
  walk_at "go"
  refine ⟨t, X, Y, rfl, ft, q1, abs_mono bY (by decide), S.cop, ?_⟩
  walk_at "go"
  rw [if_neg (by decide)]
  walk_at "go"
  refine ⟨X, Y, l, h, lo, hi, 1000, rfl, el, eh, bX, bY, by decide, ?_⟩
  rw [decide_eq_true ⟨S.ab, S.bl⟩]
  walk_at "go"
  rw [if_neg (by decide)]
  walk_at "go"
  refine ite_d (fun h0 => ?_) (fun h0 => ?_)
  · walk_at "go"
    refine ⟨X, l, h, lo, hi, 1000, rfl, el, eh, bX, by decide, by decide, S.wh h0, ?_⟩
    walk_at "go"
    rw [if_neg (by decide)]
    walk_at "go"
    refine ite_df (by omega) ?_
    rw [if_neg (by decide)]
    walk_at "go"
    exact fin
  · rw [if_neg (by decide)]
    walk_at "go"
    refine ite_d (fun h1 => ?_) (fun h1 => ?_)
    · walk_at "go"
      refine ⟨X, Y, l, h, lo, hi, rfl, el, eh, bX, bY, S, h1, ?_⟩
      walk_at "go"
      rw [if_neg (by decide)]
      walk_at "go"
      exact fin
    · omega
end
end My

namespace My
open PySem PySem.Spec PyProof.Rows L2
/-- a small fraction -/
structure NB (n d : Int) : Prop where
  pos : 0 < d
  bn : n.natAbs < 2 ^ 300
  bd : d.natAbs < 2 ^ 300
theorem Num.nb {n d : Int} (h : Num n d) : NB n d := ⟨h.pos, h.bn, h.bd⟩
theorem cop_eq {n d x y : Int} (hd : 0 < d) (hy : 0 < y) (h1 : Nat.gcd n.natAbs d.natAbs = 1) (h2 : Nat.gcd x.natAbs y.natAbs = 1) (e : x * d = n * y) : x = n ∧ y = d := by
  have en : x.natAbs * d.natAbs = n.natAbs * y.natAbs := by rw [← Int.natAbs_mul, ← Int.natAbs_mul, e]
  have d1 : d.natAbs ∣ y.natAbs := Nat.Coprime.dvd_of_dvd_mul_left (k := d.natAbs) (m := n.natAbs) (by rw [Nat.Coprime, Nat.gcd_comm]; exact h1) (by rw [← en]; exact Nat.dvd_mul_left _ _)
  have d2 : y.natAbs ∣ d.natAbs := Nat.Coprime.dvd_of_dvd_mul_left (k := y.natAbs) (m := x.natAbs) (by rw [Nat.Coprime, Nat.gcd_comm]; exact h2) (by rw [en]; exact Nat.dvd_mul_left _ _)
  have ey : y.natAbs = d.natAbs := Nat.dvd_antisymm d2 d1
  have ey : y = d := by omega
  subst ey
  exact ⟨Int.eq_of_mul_eq_mul_right (by omega) e, rfl⟩
section
variable {P : Program} {w : World} {K : PySem.W.Frag} {mg : Str → Option Value} {base : Heap}
abbrev s__law_neighbour : Stmt := topS 35
theorem sc__law_neighbour : FnScope ["box", "a", "bottom", "top", "many"] ["box", "a"] (defScope s__law_neighbour) := ⟨rfl, rfl, rfl, by decide +kernel, rfl, by decide +kernel, by decide +kernel⟩
def sp__law_neighbour (K : PySem.W.Frag) : Sp := fun vs H Q _ => ∃ (b a : Addr) (n d : Int), vs = [.ref b, .ref a] ∧ RB H b ∧ Fr K H a n d ∧ 0 < d ∧ n.natAbs < 2 ^ 64 ∧ d.natAbs < 2 ^ 64 ∧ Nat.gcd n.natAbs d.natAbs = 1 ∧
  ∀ (t : Addr) (x y : Int) H', NB x y → x * d ≠ n * y → Ch [b] H H' → RB H' b → Fr K H' t x y → Q (.ref t) H'
theorem c__law_neighbour (C__law_take : Cal P w K mg base 1 "_law_take" sp__law_take) (C__law_inverse : Cal P w K mg base 1 "_law_inverse" sp__law_inverse) (C__law_limbs : Cal P w K mg base 2 "_law_limbs" sp__law_limbs)
    {f : Addr} {fd : FuncData} (F : DefF K mg "_law_neighbour" s__law_neighbour ["box", "a"] f fd) : Cal P w K mg base 3 "_law_neighbour" (sp__law_neighbour K) := by
  refine cal_of F sc__law_neighbour (fun vs H Q E h => by obtain ⟨_, _, _, _, rfl, _⟩ := h; rfl) (fun cdv A outer s H vs Q E hr h => ?_)
  obtain ⟨b, a, n, d, rfl, B, fa, d0, bn, bd, hg, q⟩ := h
  refine ⟨_, (pss_cons (ps_set (i := 2) sc__law_neighbour.nd rfl (Or.inl rfl) (pe_cc C__law_inverse hr (by decide) (by rfl) (pa_cons (pe_ix (k_ixT (K := K) rfl) (pv 1) pe_int (fun _ _ => rfl)) (pa_cons (pe_ix (k_ixT (K := K) rfl) (pv 1) pe_int (fun _ _ => rfl)) pa_nil))))
 (pss_cons (ps_set (i := 3) sc__law_neighbour.nd rfl (Or.inl rfl) (pe_op op_fdivG (pe_op op_sub (pe_op op_mulG (pe_ix (k_ixT (K := K) rfl) (pv 1) pe_int (fun _ _ => rfl)) (pv 2)) pe_int) (pe_ix (k_ixT (K := K) rfl) (pv 1) pe_int (fun _ _ => rfl))))
 (Evl.pss_cut (ps_if (pt_cmpR op_eq (pe_cc C__law_take hr (by decide) (by rfl) (pa_cons (pv 0) (pa_cons pe_int pa_nil))) pe_int (nomark _)) (pss_cons (ps_set (i := 3) sc__law_neighbour.nd rfl (Or.inl rfl) (pe_op op_sub (pe_ix (k_ixT (K := K) rfl) (pv 1) pe_int (fun _ _ => rfl)) (pv 3)))
 (pss_one (ps_set (i := 2) sc__law_neighbour.nd rfl (Or.inl rfl) (pe_op op_sub (pe_ix (k_ixT (K := K) rfl) (pv 1) pe_int (fun _ _ => rfl)) (pv 2))))) pss_nil)
 (pss_cons (ps_set (i := 4) sc__law_neighbour.nd rfl (Or.inl rfl) (pe_op op_add pe_int (pe_cc C__law_limbs hr (by decide) (by rfl) (pa_cons (pv 0) (pa_cons (pe_op op_add pe_int (pe_cc C__law_take hr (by decide) (by rfl) (pa_cons (pv 0) (pa_cons pe_int pa_nil)))) pa_nil)))))
 (pss_one (ps_ret (pe_tup (pa_cons (pe_op op_add (pv 3) (pe_op op_mulG (pv 4) (pe_ix (k_ixT (K := K) rfl) (pv 1) pe_int (fun _ _ => rfl)))) (pa_cons (pe_op op_add (pv 2) (pe_op op_mulG (pv 4) (pe_ix (k_ixT (K := K) rfl) (pv 1) pe_int (fun _ _ => rfl)))) pa_nil))))))))), ?_⟩
  refine w_start (σ := [some _, some _, none, none, none]) rfl ?_
  walk_at "go"
  refine ⟨n, d, rfl, d0, abs_mono bd (by decide), hg, fun r r0 r1 ⟨k, ek⟩ => ?_⟩
  have br : r.natAbs < 2 ^ 64 := by omega
  walk_at "go"
  refine w_I (mul_ok bn br (by decide)) ?_
  walk_at "go"
  refine w_I (div_ok (by omega) bd (by decide)) ?_
  have et : (n * r - 1).fdiv d = k := by
    rw [Int.mul_comm n r, ek, Int.mul_comm]
    exact Int.mul_fdiv_cancel_left _ (by omega)
  have bk : k.natAbs < 2 ^ 129 := by
    rw [← et]
    exact fdiv_nat d0 (suc_bd (y := -1) (mul_bd bn br) (by decide))
  have ek' : n * r = k * d + 1 := by rw [Int.mul_comm n r]; omega
  rw [et]
  walk_at "go"
  refine w_cut (M := fun σ' H' => Ch [b] H H' ∧ RB H' b ∧ ∃ x y : Int, σ' = [some (.ref b), some (.ref a), some (.int y), some (.int x), none] ∧ 0 ≤ y ∧ x.natAbs < 2 ^ 130 ∧ y.natAbs < 2 ^ 130 ∧ (x * d - n * y = 1 ∨ x * d - n * y = -1)) ?_ ?_
  · walk_at "go"
    refine ⟨b, 2, rfl, B, by decide, by decide +kernel, fun u H1 u0 u1 c1 B1 => ?_⟩
    have fa1 := c1.sqT fa
    walk_at "go"
    refine ite_d (fun h0 => ?_) (fun h0 => ?_)
    · walk_at "go"
      refine ⟨c1, B1, n - k, d - r, rfl, by omega, sub_bd (abs_mono bn (by decide)) bk, by omega, .inl ?_⟩
      rw [Int.sub_mul, Int.mul_sub]
      omega
    · walk_at "go"
      refine ⟨c1, B1, k, r, rfl, r0, by omega, by omega, .inr ?_⟩
      omega
  · rintro σ' H1 ⟨c1, B1, x, y, rfl, y0, bx, by', ex⟩
    walk_at "go"
    refine ⟨b, 3, rfl, B1, by decide, by decide +kernel, fun u H2 u0 u1 c2 B2 => ?_⟩
    walk_at "go"
    refine ⟨b, 1 + u, rfl, B2, by omega, by omega, fun v H3 v0 v1 c3 B3 => ?_⟩
    have fa3 := ((c1.trans c2).trans c3).sqT fa
    have v2 : v < 1000000000000000 := by
      have l := pow_le (a := 100000) (by decide) (show (1 + u).toNat ≤ 3 by omega)
      have e : (100000 : Int) ^ 3 = 1000000000000000 := by decide +kernel
      omega
    have bm : (1 + v).natAbs < 2 ^ 51 := by omega
    walk_at "go"
    refine w_I (mul_ok bm bn (by decide)) ?_
    walk_at "go"
    refine w_I (mul_ok bm bd (by decide)) ?_
    walk_at "go"
    refine w_newT (show 2 ≤ sizeLine by decide) fun t H4 n4 c4 h4 => ?_
    have m1 := le_mul_pos (show 0 ≤ 1 + v by omega) (show 1 ≤ d by omega)
    have b1 := mul_bd bm bn
    have b2 := mul_bd bm bd
    refine q t _ _ H4 ⟨by omega, abs_mono (add_bd bx (abs_mono b1 (by decide))) (by decide), abs_mono (add_bd by' (abs_mono b2 (by decide))) (by decide)⟩ (fun z => ?_) (((c1.trans c2).trans c3).trans0 c4) (B3.mono c4) (.of h4)
    rw [Int.add_mul, Int.mul_add] at z
    have e1 : (1 + v) * n * d = n * ((1 + v) * d) := by rw [Int.mul_comm (1 + v) n, Int.mul_assoc]
    omega
abbrev s__law_near : Stmt := topS 36
theorem sc__law_near : FnScope ["box", "a", "way", "shared"] ["box", "a"] (defScope s__law_near) := ⟨rfl, rfl, rfl, by decide +kernel, rfl, by decide +kernel, by decide +kernel⟩
def sp__law_near (K : PySem.W.Frag) : Sp := fun vs H Q _ => ∃ (b a : Addr) (n d : Int), vs = [.ref b, .ref a] ∧ RB H b ∧ Fr K H a n d ∧ Num n d ∧
  ∀ (t : Addr) (x y : Int) H', NB x y → (x * d = n * y → x = n ∧ y = d) → Ch [b] H H' → RB H' b → Fr K H' t x y → Q (.ref t) H'
theorem c__law_near (T : Txt mg) (C__law_take : Cal P w K mg base 1 "_law_take" sp__law_take) (C__law_turned : Cal P w K mg base 2 "_law_turned" sp__law_turned) (C__law_limbs : Cal P w K mg base 2 "_law_limbs" sp__law_limbs) (C__law_neighbour : Cal P w K mg base 3 "_law_neighbour" (sp__law_neighbour K))
    (C__law_lowest : Cal P w K mg base 2 "_law_lowest" (sp__law_lowest K)) (C__law_number : Cal P w K mg base 4 "_law_number" (sp__law_number K)) {f : Addr} {fd : FuncData} (F : DefF K mg "_law_near" s__law_near ["box", "a"] f fd) : Cal P w K mg base 5 "_law_near" (sp__law_near K) := by
  refine cal_of F sc__law_near (fun vs H Q E h => by obtain ⟨_, _, _, _, rfl, _⟩ := h; rfl) (fun cdv A outer s H vs Q E hr h => ?_)
  obtain ⟨b, a, n, d, rfl, B, fa, N, q⟩ := h
  refine ⟨_, (pss_cons (ps_set (i := 2) sc__law_near.nd rfl (Or.inl rfl) (pe_cc C__law_take hr (by decide) (by rfl) (pa_cons (pv 0) (pa_cons pe_int pa_nil))))
 (pss_cons (ps_if (PW.pt (pw_and (pt_cmpR op_lt (pv 2) pe_int (nomark _)) (pw_and (pt_cmpR op_le (pe_callB cb_abs (by rfl) T.z_abs (by decide +kernel) (pa_cons (pe_ix (k_ixT (K := K) rfl) (pv 1) pe_int (fun _ _ => rfl)) pa_nil)) (pe_op op_pow pe_int pe_int) (nomark _)) (pw_and1 (pt_cmpR op_le (pe_ix (k_ixT (K := K) rfl) (pv 1) pe_int (fun _ _ => rfl)) (pe_op op_pow pe_int pe_int) (nomark _)))))) (pss_cons (ps_if (pt_cmpR op_eq (pv 2) pe_int (nomark _)) (pss_one (ps_ret (pe_cc C__law_neighbour hr (by decide) (by rfl) (pa_cons (pv 0) (pa_cons (pv 1) pa_nil))))) pss_nil)
 (pss_cons (ps_set (i := 3) sc__law_near.nd rfl (Or.inl rfl) (pe_op op_add pe_int (pe_cc C__law_limbs hr (by decide) (by rfl) (pa_cons (pv 0) (pa_cons pe_int pa_nil)))))
 (pss_one (ps_ret (pe_cc C__law_lowest hr (by decide) (by rfl) (pa_cons (pe_op op_sub (pe_op op_add (pe_op op_mulG (pe_ix (k_ixT (K := K) rfl) (pv 1) pe_int (fun _ _ => rfl)) (pv 3)) (pe_cc C__law_take hr (by decide) (by rfl) (pa_cons (pv 0) (pa_cons pe_int pa_nil)))) pe_int) (pa_cons (pe_op op_mulG (pe_ix (k_ixT (K := K) rfl) (pv 1) pe_int (fun _ _ => rfl)) (pv 3)) pa_nil))))))) pss_nil)
 (pss_cons (ps_if (PW.pt (pw_and (pt_cmpR op_eq (pv 2) pe_int (nomark _)) (pw_and (pt_cmpR op_le (pe_callB cb_abs (by rfl) T.z_abs (by decide +kernel) (pa_cons (pe_ix (k_ixT (K := K) rfl) (pv 1) pe_int (fun _ _ => rfl)) pa_nil)) (pe_op op_pow pe_int pe_int) (nomark _)) (pw_and1 (pt_cmpR op_le (pe_ix (k_ixT (K := K) rfl) (pv 1) pe_int (fun _ _ => rfl)) (pe_op op_pow pe_int pe_int) (nomark _)))))) (pss_one (ps_ret (pe_tup (pa_cons (pe_op op_add (pe_ix (k_ixT (K := K) rfl) (pv 1) pe_int (fun _ _ => rfl)) (pe_cc C__law_turned hr (by decide) (by rfl) (pa_cons (pv 0) (pa_cons (pe_ix (k_ixT (K := K) rfl) (pv 1) pe_int (fun _ _ => rfl)) pa_nil)))) (pa_cons (pe_ix (k_ixT (K := K) rfl) (pv 1) pe_int (fun _ _ => rfl)) pa_nil))))) pss_nil)
 (pss_cons (ps_if (pt_cmpR op_eq (pv 2) pe_int (nomark _)) (pss_one (ps_ret (pe_tup (pa_cons (pe_un un_neg (pe_ix (k_ixT (K := K) rfl) (pv 1) pe_int (fun _ _ => rfl))) (pa_cons (pe_ix (k_ixT (K := K) rfl) (pv 1) pe_int (fun _ _ => rfl)) pa_nil))))) pss_nil)
 (pss_one (ps_ret (pe_cc C__law_number hr (by decide) (by rfl) (pa_cons (pv 0) pa_nil)))))))), ?_⟩
  refine w_start (σ := [some _, some _, none, none]) rfl ?_
  have d0 := N.pos
  walk_at "go"
  refine ⟨b, 6, rfl, B, by decide, by decide +kernel, fun way H1 w0 w1 c1 B1 => ?_⟩
  have fa1 := c1.sqT fa
  walk_at "go"
  refine ite_d (fun h0 => ?_) (fun h0 => ?_)
  · walk_at "go"
    refine ite_d (fun h1 => ?_) (fun h1 => ?_)
    · walk_at "go"
      refine ite_d (fun h2 => ?_) (fun h2 => ?_)
      · have e19 : (10 : Int) ^ Int.toNat 19 = 10000000000000000000 := by decide +kernel
        rw [e19] at h1 h2
        walk_at "go"
        refine ite_d (fun h3 => ?_) (fun h3 => ?_)
        · walk_at "go"
          exact ⟨b, a, n, d, rfl, B1, fa1, d0, by omega, by omega, N.cop, fun t x y H2 nb ne c2 B2 f2 => q t x y H2 nb (fun e => absurd e ne) (c1.trans c2) B2 f2⟩
        · walk_at "go"
          refine ⟨b, 4, rfl, B1, by decide, by decide, fun r H2 r0 r1 c2 B2 => ?_⟩
          have e4 : (100000 : Int) ^ Int.toNat 4 = 100000000000000000000 := by decide +kernel
          rw [e4] at r1
          have fa2 := c2.sqT fa1
          have bn : n.natAbs < 2 ^ 64 := by omega
          have bd : d.natAbs < 2 ^ 64 := by omega
          have bs : (1 + r).natAbs < 2 ^ 70 := by omega
          walk_at "go"
          refine w_I (mul_ok bn bs (by decide)) ?_
          walk_at "go"
          refine ⟨b, 3, rfl, B2, by decide, by decide +kernel, fun r2 H3 s0 s1 c3 B3 => ?_⟩
          have fa3 := c3.sqT fa2
          walk_at "go"
          refine w_I (mul_ok bd bs (by decide)) ?_
          walk_at "go"
          have m0 : 0 < d * (1 + r) := Int.mul_pos d0 (by omega)
          have b1 := mul_bd bn bs
          have b2 := mul_bd bd bs
          refine ⟨_, _, rfl, by omega, abs_mono b2 (by decide), fun t x y H4 L c4 f4 => ?_⟩
          have nm := L.num (abs_mono (a := 140) (by omega) (by decide)) (abs_mono b2 (by decide))
          exact q t x y H4 nm.nb (fun e => cop_eq d0 nm.pos N.cop nm.cop e) (((c1.trans c2).trans c3).trans0 c4) (B3.mono c4) f4
      · walk_at "go"
        refine ite_d (fun h2 => ?_) (fun h2 => ?_)
        · walk_at "go"
          refine ite_d (fun g1 => ?_) (fun g1 => ?_)
          · walk_at "go"
            refine ite_d (fun g2 => ?_) (fun g2 => ?_)
            · walk_at "go"
              refine ⟨b, d, rfl, B1, fun u H2 eu c2 B2 => ?_⟩
              have fa2 := c2.sqT fa1
              walk_at "go"
              refine w_newT (show 2 ≤ sizeLine by decide) fun t H3 n3 c3 h3 => ?_
              refine q t (n + u) d H3 ⟨N.pos, ?_, N.bd⟩ (fun e => ⟨Int.eq_of_mul_eq_mul_right (by have := N.pos; omega) e, rfl⟩) ((c1.trans c2).trans0 c3) (B2.mono c3) (.of h3)
              have e : (10 : Int) ^ Int.toNat 39 = 1000000000000000000000000000000000000000 := by decide +kernel
              rw [e] at g1 g2
              have p0 := N.pos
              refine abs_mono (a := 140) ?_ (by decide)
              have e2 : (2 : Nat) ^ 140 = 1393796574908163946345982392040522594123776 := by decide +kernel
              rcases eu with z | z <;> rw [z] <;> omega
            · walk_at "go"
              refine ite_d (fun h3 => ?_) (fun h3 => ?_)
              · walk_at "go"
                refine w_newT (show 2 ≤ sizeLine by decide) fun t H2 n2 c2 h2 => ?_
                exact q t (-n) d H2 ⟨N.pos, by have := N.bn; omega, N.bd⟩ (fun e => ⟨Int.eq_of_mul_eq_mul_right (by have := N.pos; omega) e, rfl⟩) (c1.trans0 c2) (B1.mono c2) (.of h2)
              · walk_at "go"
                refine ⟨b, rfl, B1, fun t x y H2 N2 c2 B2 f2 => ?_⟩
                exact q t x y H2 N2.nb (fun e => cop_eq N.pos N2.pos N.cop N2.cop e) (c1.trans c2) B2 f2
          · rw [if_neg (by decide)]
            walk_at "go"
            refine ite_d (fun h3 => ?_) (fun h3 => ?_)
            · walk_at "go"
              refine w_newT (show 2 ≤ sizeLine by decide) fun t H2 n2 c2 h2 => ?_
              exact q t (-n) d H2 ⟨N.pos, by have := N.bn; omega, N.bd⟩ (fun e => ⟨Int.eq_of_mul_eq_mul_right (by have := N.pos; omega) e, rfl⟩) (c1.trans0 c2) (B1.mono c2) (.of h2)
            · walk_at "go"
              refine ⟨b, rfl, B1, fun t x y H2 N2 c2 B2 f2 => ?_⟩
              exact q t x y H2 N2.nb (fun e => cop_eq N.pos N2.pos N.cop N2.cop e) (c1.trans c2) B2 f2
        · rw [if_neg (by decide)]
          walk_at "go"
          refine ite_d (fun h3 => ?_) (fun h3 => ?_)
          · walk_at "go"
            refine w_newT (show 2 ≤ sizeLine by decide) fun t H2 n2 c2 h2 => ?_
            exact q t (-n) d H2 ⟨N.pos, by have := N.bn; omega, N.bd⟩ (fun e => ⟨Int.eq_of_mul_eq_mul_right (by have := N.pos; omega) e, rfl⟩) (c1.trans0 c2) (B1.mono c2) (.of h2)
          · walk_at "go"
            refine ⟨b, rfl, B1, fun t x y H2 N2 c2 B2 f2 => ?_⟩
            exact q t x y H2 N2.nb (fun e => cop_eq N.pos N2.pos N.cop N2.cop e) (c1.trans c2) B2 f2
    · rw [if_neg (by decide)]
      walk_at "go"
      refine ite_d (fun h2 => ?_) (fun h2 => ?_)
      · walk_at "go"
        refine ite_d (fun g1 => ?_) (fun g1 => ?_)
        · walk_at "go"
          refine ite_d (fun g2 => ?_) (fun g2 => ?_)
          · walk_at "go"
            refine ⟨b, d, rfl, B1, fun u H2 eu c2 B2 => ?_⟩
            have fa2 := c2.sqT fa1
            walk_at "go"
            refine w_newT (show 2 ≤ sizeLine by decide) fun t H3 n3 c3 h3 => ?_
            refine q t (n + u) d H3 ⟨N.pos, ?_, N.bd⟩ (fun e => ⟨Int.eq_of_mul_eq_mul_right (by have := N.pos; omega) e, rfl⟩) ((c1.trans c2).trans0 c3) (B2.mono c3) (.of h3)
            have e : (10 : Int) ^ Int.toNat 39 = 1000000000000000000000000000000000000000 := by decide +kernel
            rw [e] at g1 g2
            have p0 := N.pos
            refine abs_mono (a := 140) ?_ (by decide)
            have e2 : (2 : Nat) ^ 140 = 1393796574908163946345982392040522594123776 := by decide +kernel
            rcases eu with z | z <;> rw [z] <;> omega
          · walk_at "go"
            refine ite_d (fun h3 => ?_) (fun h3 => ?_)
            · walk_at "go"
              refine w_newT (show 2 ≤ sizeLine by decide) fun t H2 n2 c2 h2 => ?_
              exact q t (-n) d H2 ⟨N.pos, by have := N.bn; omega, N.bd⟩ (fun e => ⟨Int.eq_of_mul_eq_mul_right (by have := N.pos; omega) e, rfl⟩) (c1.trans0 c2) (B1.mono c2) (.of h2)
            · walk_at "go"
              refine ⟨b, rfl, B1, fun t x y H2 N2 c2 B2 f2 => ?_⟩
              exact q t x y H2 N2.nb (fun e => cop_eq N.pos N2.pos N.cop N2.cop e) (c1.trans c2) B2 f2
        · rw [if_neg (by decide)]
          walk_at "go"
          refine ite_d (fun h3 => ?_) (fun h3 => ?_)
          · walk_at "go"
            refine w_newT (show 2 ≤ sizeLine by decide) fun t H2 n2 c2 h2 => ?_
            exact q t (-n) d H2 ⟨N.pos, by have := N.bn; omega, N.bd⟩ (fun e => ⟨Int.eq_of_mul_eq_mul_right (by have := N.pos; omega) e, rfl⟩) (c1.trans0 c2) (B1.mono c2) (.of h2)
          · walk_at "go"
            refine ⟨b, rfl, B1, fun t x y H2 N2 c2 B2 f2 => ?_⟩
            exact q t x y H2 N2.nb (fun e => cop_eq N.pos N2.pos N.cop N2.cop e) (c1.trans c2) B2 f2
      · rw [if_neg (by decide)]
        walk_at "go"
        refine ite_d (fun h3 => ?_) (fun h3 => ?_)
        · walk_at "go"
          refine w_newT (show 2 ≤ sizeLine by decide) fun t H2 n2 c2 h2 => ?_
          exact q t (-n) d H2 ⟨N.pos, by have := N.bn; omega, N.bd⟩ (fun e => ⟨Int.eq_of_mul_eq_mul_right (by have := N.pos; omega) e, rfl⟩) (c1.trans0 c2) (B1.mono c2) (.of h2)
        · walk_at "go"
          refine ⟨b, rfl, B1, fun t x y H2 N2 c2 B2 f2 => ?_⟩
          exact q t x y H2 N2.nb (fun e => cop_eq N.pos N2.pos N.cop N2.cop e) (c1.trans c2) B2 f2
  · rw [if_neg (by decide)]
    walk_at "go"
    refine ite_d (fun h2 => ?_) (fun h2 => ?_)
    · walk_at "go"
      refine ite_d (fun g1 => ?_) (fun g1 => ?_)
      · walk_at "go"
        refine ite_d (fun g2 => ?_) (fun g2 => ?_)
        · walk_at "go"
          refine ⟨b, d, rfl, B1, fun u H2 eu c2 B2 => ?_⟩
          have fa2 := c2.sqT fa1
          walk_at "go"
          refine w_newT (show 2 ≤ sizeLine by decide) fun t H3 n3 c3 h3 => ?_
          refine q t (n + u) d H3 ⟨N.pos, ?_, N.bd⟩ (fun e => ⟨Int.eq_of_mul_eq_mul_right (by have := N.pos; omega) e, rfl⟩) ((c1.trans c2).trans0 c3) (B2.mono c3) (.of h3)
          have e : (10 : Int) ^ Int.toNat 39 = 1000000000000000000000000000000000000000 := by decide +kernel
          rw [e] at g1 g2
          have p0 := N.pos
          refine abs_mono (a := 140) ?_ (by decide)
          have e2 : (2 : Nat) ^ 140 = 1393796574908163946345982392040522594123776 := by decide +kernel
          rcases eu with z | z <;> rw [z] <;> omega
        · walk_at "go"
          refine ite_d (fun h3 => ?_) (fun h3 => ?_)
          · walk_at "go"
            refine w_newT (show 2 ≤ sizeLine by decide) fun t H2 n2 c2 h2 => ?_
            exact q t (-n) d H2 ⟨N.pos, by have := N.bn; omega, N.bd⟩ (fun e => ⟨Int.eq_of_mul_eq_mul_right (by have := N.pos; omega) e, rfl⟩) (c1.trans0 c2) (B1.mono c2) (.of h2)
          · walk_at "go"
            refine ⟨b, rfl, B1, fun t x y H2 N2 c2 B2 f2 => ?_⟩
            exact q t x y H2 N2.nb (fun e => cop_eq N.pos N2.pos N.cop N2.cop e) (c1.trans c2) B2 f2
      · rw [if_neg (by decide)]
        walk_at "go"
        refine ite_d (fun h3 => ?_) (fun h3 => ?_)
        · walk_at "go"
          refine w_newT (show 2 ≤ sizeLine by decide) fun t H2 n2 c2 h2 => ?_
          exact q t (-n) d H2 ⟨N.pos, by have := N.bn; omega, N.bd⟩ (fun e => ⟨Int.eq_of_mul_eq_mul_right (by have := N.pos; omega) e, rfl⟩) (c1.trans0 c2) (B1.mono c2) (.of h2)
        · walk_at "go"
          refine ⟨b, rfl, B1, fun t x y H2 N2 c2 B2 f2 => ?_⟩
          exact q t x y H2 N2.nb (fun e => cop_eq N.pos N2.pos N.cop N2.cop e) (c1.trans c2) B2 f2
    · rw [if_neg (by decide)]
      walk_at "go"
      refine ite_d (fun h3 => ?_) (fun h3 => ?_)
      · walk_at "go"
        refine w_newT (show 2 ≤ sizeLine by decide) fun t H2 n2 c2 h2 => ?_
        exact q t (-n) d H2 ⟨N.pos, by have := N.bn; omega, N.bd⟩ (fun e => ⟨Int.eq_of_mul_eq_mul_right (by have := N.pos; omega) e, rfl⟩) (c1.trans0 c2) (B1.mono c2) (.of h2)
      · walk_at "go"
        refine ⟨b, rfl, B1, fun t x y H2 N2 c2 B2 f2 => ?_⟩
        exact q t x y H2 N2.nb (fun e => cop_eq N.pos N2.pos N.cop N2.cop e) (c1.trans c2) B2 f2
end
end My

namespace My
open PySem PySem.Spec PyProof.Rows L2
theorem NB.vb {n d : Int} (h : NB n d) : VB ((2 : Int) ^ 300) ((2 : Int) ^ 300) (some (n, d)) := by
  obtain ⟨h1, h2, h3⟩ := h
  have a := int_bd h2
  have b := int_bd h3
  have k := Int.mul_le_mul_of_nonneg_left (show 1 ≤ d by omega) (show 0 ≤ (2 : Int) ^ 300 by exact Int.le_of_lt (Int.pow_pos (by decide)))
  rw [Int.mul_one] at k
  exact ⟨h1, by omega, by omega, by omega⟩
/-- the ends of the i-th step -/
def Stp (i : Nat) (o : Option (Int × Int)) : Prop := VB ((2 : Int) ^ 300 + i) ((2 : Int) ^ (300 + i)) o
theorem Stp.next {i : Nat} {lo hi : Option (Int × Int)} {X Y : Int} (S : Simp lo hi X Y) (h1 : Stp i lo) (h2 : Stp i hi) : Stp (i + 1) (some (X, Y)) := by
  have p : 0 < (2 : Int) ^ 300 := Int.pow_pos (by decide)
  have p2 : 0 < (2 : Int) ^ (300 + i) := Int.pow_pos (by decide)
  have r := S.vb (by omega) (by omega) h1 h2
  have e : (2 : Int) ^ (300 + (i + 1)) = (2 : Int) ^ (300 + i) + (2 : Int) ^ (300 + i) := by
    rw [← Nat.add_assoc, Int.pow_succ]
    omega
  unfold Stp
  rw [e]
  exact r.mono (by omega) (by omega)
theorem Stp.up {i : Nat} {o : Option (Int × Int)} (h : Stp i o) : Stp (i + 1) o := by
  have p2 : 0 < (2 : Int) ^ (300 + i) := Int.pow_pos (by decide)
  have e : (2 : Int) ^ (300 + (i + 1)) = (2 : Int) ^ (300 + i) + (2 : Int) ^ (300 + i) := by
    rw [← Nat.add_assoc, Int.pow_succ]
    omega
  exact VB.mono h (by omega) (by omega)
theorem Stp.nat {i : Nat} {n d : Int} (h : Stp i (some (n, d))) (hi : i ≤ 6) : 0 < d ∧ n.natAbs < 2 ^ 1000 ∧ d.natAbs < 2 ^ 1000 := by
  obtain ⟨h1, h2, h3, h4⟩ := h
  have p : 0 < (2 : Int) ^ 300 := Int.pow_pos (by decide)
  have q1 : (2 : Int) ^ (300 + i) ≤ (2 : Int) ^ 306 := pow_le (by decide) (by omega)
  have q2 : (2 : Int) ^ 306 = 64 * (2 : Int) ^ 300 := by rw [show 306 = 300 + 6 from rfl, Int.pow_add, Int.mul_comm]; rfl
  have q3 : (2 : Int) ^ 700 = (2 : Int) ^ 300 * (2 : Int) ^ 300 * (2 : Int) ^ 100 := by rw [← Int.pow_add, ← Int.pow_add]
  have k1 : ((2 : Int) ^ 300 + i) * d ≤ (2 * (2 : Int) ^ 300) * (64 * (2 : Int) ^ 300) := by
    have a1 := Int.mul_le_mul_of_nonneg_right (show (2 : Int) ^ 300 + i ≤ 2 * (2 : Int) ^ 300 by
      have : (8 : Int) ≤ (2 : Int) ^ 300 := by
        have := pow_le (a := 2) (by decide) (show 3 ≤ 300 by decide)
        omega
      omega) (show 0 ≤ d by omega)
    have a2 := Int.mul_le_mul_of_nonneg_left (show d ≤ 64 * (2 : Int) ^ 300 by omega) (show 0 ≤ 2 * (2 : Int) ^ 300 by omega)
    omega
  have k2 : (2 * (2 : Int) ^ 300) * (64 * (2 : Int) ^ 300) = 128 * ((2 : Int) ^ 300 * (2 : Int) ^ 300) := by
    rw [Int.mul_assoc, Int.mul_left_comm ((2 : Int) ^ 300) 64, ← Int.mul_assoc]
    rfl
  have k3 : (128 : Int) * ((2 : Int) ^ 300 * (2 : Int) ^ 300) < (2 : Int) ^ 700 := by
    rw [q3, Int.mul_comm]
    have m : 0 < (2 : Int) ^ 300 * (2 : Int) ^ 300 := Int.mul_pos p p
    exact Int.mul_lt_mul_of_pos_left (by decide +kernel) m
  have k4 : (2 : Int) ^ 306 < (2 : Int) ^ 700 := by
    rw [show 700 = 306 + 394 from rfl, Int.pow_add]
    have m : 0 < (2 : Int) ^ 306 := Int.pow_pos (by decide)
    have := Int.mul_lt_mul_of_pos_left (show (1 : Int) < (2 : Int) ^ 394 by decide +kernel) m
    omega
  refine ⟨h1, abs_mono (nat_bd (j := 700) (by omega) (by omega)) (by decide), abs_mono (nat_bd (j := 700) (by omega) (by omega)) (by decide)⟩
section
variable {P : Program} {w : World} {K : PySem.W.Frag} {mg : Str → Option Value} {base : Heap}
theorem Ch.two {H H1 : Hp} {a b c : Addr} (ch : Ch [a, b] H H1) (h1 : c ≠ a) (h2 : c ≠ b) {o : HO} (h : H c = some o) : H1 c = some o := (ch c o h).elim id fun ⟨m, _⟩ => by
  rcases List.mem_cons.mp m with e | e
  · exact absurd e h1
  · exact absurd (List.mem_singleton.mp e) h2
abbrev s__law_two_ends : Stmt := topS 37
theorem sc__law_two_ends : FnScope ["box", "one", "two"] ["box"] (defScope s__law_two_ends) := ⟨rfl, rfl, rfl, by decide +kernel, rfl, by decide +kernel, by decide +kernel⟩
def sp__law_two_ends (K : PySem.W.Frag) : Sp := fun vs H Q _ => ∃ (b : Addr), vs = [.ref b] ∧ RB H b ∧ ∀ (o u v : Addr) (n d m e : Int) H', NB n d → NB m e → n * e < m * d → Ch [b] H H' → RB H' b → SqT K H' o [.ref u, .ref v] → Fr K H' u n d → Fr K H' v m e → Q (.ref o) H'
theorem c__law_two_ends (T : Txt mg) (C__law_number : Cal P w K mg base 4 "_law_number" (sp__law_number K)) (C__law_near : Cal P w K mg base 5 "_law_near" (sp__law_near K)) (C__law_less : Cal P w K mg base 1 "_law_less" (sp__law_less K))
    {f : Addr} {fd : FuncData} (F : DefF K mg "_law_two_ends" s__law_two_ends ["box"] f fd) : Cal P w K mg base 6 "_law_two_ends" (sp__law_two_ends K) := by
  refine cal_of F sc__law_two_ends (fun vs H Q E h => by obtain ⟨_, rfl, _⟩ := h; rfl) (fun cdv A outer s H vs Q E hr h => ?_)
  obtain ⟨b, rfl, B, q⟩ := h
  refine ⟨_, (pss_cons (ps_set (i := 1) sc__law_two_ends.nd rfl (Or.inl rfl) (pe_cc C__law_number hr (by decide) (by rfl) (pa_cons (pv 0) pa_nil)))
 (pss_cons (ps_set (i := 2) sc__law_two_ends.nd rfl (Or.inl rfl) (pe_cc C__law_near hr (by decide) (by rfl) (pa_cons (pv 0) (pa_cons (pv 1) pa_nil))))
 (Evl.pss_cut (ps_if (pt_cmpR (k_eqD (K := K) rfl hr.units) (pv 1) (pv 2) (nomark _)) (pss_one (ps_set (i := 2) sc__law_two_ends.nd rfl (Or.inl rfl) (pe_tup (pa_cons (pe_callTy cb_int (by rfl) T.z_int (by decide +kernel) (pa_cons (pe_cmpR op_eq (pe_ix (k_ixT (K := K) rfl) (pv 1) pe_int (fun _ _ => rfl)) pe_int (nomark _)) pa_nil)) (pa_cons pe_int pa_nil))))) pss_nil)
 (pss_cons (ps_if (pt_val (pe_cc C__law_less hr (by decide) (by rfl) (pa_cons (pv 1) (pa_cons (pv 2) pa_nil)))) (pss_one (ps_ret (pe_tup (pa_cons (pv 1) (pa_cons (pv 2) pa_nil))))) pss_nil)
 (pss_one (ps_ret (pe_tup (pa_cons (pv 2) (pa_cons (pv 1) pa_nil))))))))), ?_⟩
  refine w_start (σ := [some _, none, none]) rfl ?_
  walk_at "go"
  refine ⟨b, rfl, B, fun a n d H1 N c1 B1 fa => ?_⟩
  walk_at "go"
  refine ⟨b, a, n, d, rfl, B1, fa, N, fun t x y H2 nb ne c2 B2 ft => ?_⟩
  have fa2 := c2.sqT fa
  have d0 := N.pos
  walk_at "go"
  refine w_cut (M := fun σ' H' => Ch [b] H H' ∧ RB H' b ∧ Fr K H' a n d ∧ ∃ (v : Addr) (m e : Int), σ' = [some (.ref b), some (.ref a), some (.ref v)] ∧ NB m e ∧ Fr K H' v m e ∧ m * d ≠ n * e) ?_ ?_
  · walk_at "go"
    refine w_eqT fa2 ft ?_
    walk_at "go"
    refine ite_d (fun h0 => ?_) (fun h0 => ?_)
    · walk_at "go"
      refine w_newT (show 2 ≤ sizeLine by decide) fun v H3 n3 c3 h3 => ?_
      have c13 := (c1.trans c2).trans0 c3
      by_cases c : n = 0
      · refine ⟨c13, B2.mono c3, c3.sqT fa2, v, 1, 1, rfl, ⟨by decide, by decide +kernel, by decide +kernel⟩, .of (xs := ivs [1, 1]) ?_, by rw [c]; omega⟩
        rw [h3, decide_eq_true c]
        rfl
      · refine ⟨c13, B2.mono c3, c3.sqT fa2, v, 0, 1, rfl, ⟨by decide, by decide +kernel, by decide +kernel⟩, .of (xs := ivs [0, 1]) ?_, by omega⟩
        rw [h3, decide_eq_false c]
        rfl
    · walk_at "go"
      refine ⟨c1.trans c2, B2, fa2, t, x, y, rfl, nb, ft, fun e => h0 ?_⟩
      obtain ⟨r1, r2⟩ := ne e
      rw [r1, r2]
  · rintro σ' H3 ⟨c3, B3, fa3, v, m, e, rfl, nbv, fv, ne3⟩
    walk_at "go"
    refine ⟨a, v, n, d, m, e, 300, rfl, fa3, fv, N.bn, N.bd, nbv.bn, nbv.bd, by decide, ?_⟩
    walk_at "go"
    refine ite_d (fun h0 => ?_) (fun h0 => ?_)
    · walk_at "go"
      refine w_newT (show 2 ≤ sizeLine by decide) fun o H4 n4 c4 h4 => ?_
      exact q o a v n d m e H4 N.nb nbv h0 (c3.trans0 c4) (B3.mono c4) (.of h4) (c4.sqT fa3) (c4.sqT fv)
    · walk_at "go"
      refine w_newT (show 2 ≤ sizeLine by decide) fun o H4 n4 c4 h4 => ?_
      exact q o v a m e n d H4 nbv N.nb (by omega) (c3.trans0 c4) (B3.mono c4) (.of h4) (c4.sqT fv) (c4.sqT fa3)
abbrev s__law_walk_holds : Stmt := topS 38
theorem sc__law_walk_holds : FnScope ["box", "tries", "low", "high", "turn", "told"] ["box", "tries", "low", "high"] (defScope s__law_walk_holds) := ⟨rfl, rfl, rfl, by decide +kernel, rfl, by decide +kernel, by decide +kernel⟩
def sp__law_walk_holds (K : PySem.W.Frag) : Sp := fun vs H Q _ => ∃ (b t : Addr) (l h : V) (lo hi : Option (Int × Int)), vs = [.ref b, .ref t, l, h] ∧ b ≠ t ∧ RB H b ∧ RB H t ∧ End K H 1000 l lo ∧ End K H 1000 h hi ∧ Stp 0 lo ∧ Stp 0 hi ∧ Nem lo hi ∧
  ∀ H', Ch [b, t] H H' → RB H' b → Q (.bl true) H'
theorem RB.two {H H' : Hp} {b t : Addr} (B : RB H b) (n : b ≠ t) (c : Ch [t] H H') : RB H' b := B.mono1 n c
theorem c__law_walk_holds {A_InvalidStretch : Addr} (T : Txt mg) (C_between : CalN P w K mg base 3 "between" (sp_between K A_InvalidStretch)) (C__law_take : Cal P w K mg base 1 "_law_take" sp__law_take) (C__law_is_simplest : Cal P w K mg base 4 "_law_is_simplest" (sp__law_is_simplest K))
    (C__law_is_refused : Cal P w K mg base 4 "_law_is_refused" (sp__law_is_refused K)) {f : Addr} {fd : FuncData} (F : DefF K mg "_law_walk_holds" s__law_walk_holds ["box", "tries", "low", "high"] f fd) : Cal P w K mg base 5 "_law_walk_holds" (sp__law_walk_holds K) := by
  refine cal_of F sc__law_walk_holds (fun vs H Q E h => by obtain ⟨_, _, _, _, _, _, rfl, _⟩ := h; rfl) (fun cdv A outer s H vs Q E hr h => ?_)
  obtain ⟨b, t, l0, h0, lo0, hi0, rfl, nbt, B, Bt, el0, eh0, sl0, sh0, nm0, q⟩ := h
  refine ⟨_, (pss_cons (ps_for PassesOwn.never rfl (pi_range1 (by rfl) T.z_range (pa_cons (pe_op op_add pe_int (pe_cc C__law_take hr (by decide) (by rfl) (pa_cons (pv 0) (pa_cons pe_int pa_nil)))) pa_nil)) (pg_name (i := 4) sc__law_walk_holds.nd rfl (Or.inl rfl)) (pss_cons (ps_set (i := 5) sc__law_walk_holds.nd rfl (Or.inl rfl) (pe_ccN C_between hr (by decide) (by rfl) (pa_cons (pv 2) (pa_cons (pv 3) pa_nil))))
 (pss_cons (ps_if (pt_not (pt_val (pe_cc C__law_is_simplest hr (by decide) (by rfl) (pa_cons (pv 1) (pa_cons (pv 5) (pa_cons (pv 2) (pa_cons (pv 3) pa_nil))))))) (pss_one (ps_ret pe_bl)) pss_nil)
 (pss_one (ps_if (pt_cmpR op_eq (pe_cc C__law_take hr (by decide) (by rfl) (pa_cons (pv 0) (pa_cons pe_int pa_nil))) pe_int (nomark _)) (pss_one (ps_set (i := 2) sc__law_walk_holds.nd rfl (Or.inl rfl) (pv 5))) (pss_one (ps_set (i := 3) sc__law_walk_holds.nd rfl (Or.inl rfl) (pv 5))))))))
 (pss_cons (ps_if (PW.pt (pw_or (pt_cmpR op_isN (pv 2) pe_non (nomark _)) (pw_or1 (pt_cmpR op_isN (pv 3) pe_non (nomark _))))) (pss_one (ps_ret pe_bl)) pss_nil)
 (pss_one (ps_ret (pe_cc C__law_is_refused hr (by decide) (by rfl) (pa_cons (pv 3) (pa_cons (pv 2) pa_nil))))))), ?_⟩
  refine w_start (σ := [some _, some _, some _, some _, none, none]) rfl ?_
  walk_at "go"
  refine ⟨b, 6, rfl, B, by decide, by decide +kernel, fun r H1 r0 r1 c1 B1 => ?_⟩
  have toL : ∀ {Ha Hb : Hp}, Ch [b] Ha Hb → Ch [b, t] Ha Hb := fun c => c.mono fun x m => List.mem_cons.mpr (.inl (List.mem_singleton.mp m))
  have toR : ∀ {Ha Hb : Hp}, Ch [t] Ha Hb → Ch [b, t] Ha Hb := fun c => c.mono fun x m => List.mem_cons.mpr (.inr m)
  walk_at "go"
  refine w_iR1r (by omega) (by omega) ?_
  refine for_R (n := (1 + r).toNat) (fun i σ H' => Ch [b, t] H H' ∧ RB H' b ∧ RB H' t ∧ ∃ (l h : V) (lo hi : Option (Int × Int)) (z1 z2 : Option V), σ = [some (.ref b), some (.ref t), some l, some h, z1, z2] ∧ End K H' 1000 l lo ∧ End K H' 1000 h hi ∧ Stp i lo ∧ Stp i hi ∧ Nem lo hi)
    ⟨toL c1, B1, Bt.mono1 (Ne.symm nbt) c1, l0, h0, lo0, hi0, none, none, rfl, el0.ch c1, eh0.ch c1, sl0, sh0, nm0⟩ ?_ ?_
  · rintro i σ H2 hi' ⟨c2, B2, Bt2, l, h, lo, hi, z1, z2, rfl, el, eh, sl, sh, nm⟩
    walk_at "go"
    refine ⟨l, h, lo, hi, 1000, rfl, el, eh, by decide, fun n d m e e1 e2 le => absurd (nm n d m e e1 e2) (by omega), fun _ u X Y H3 S c3 fu => ?_⟩
    have S' := Stp.next S sl sh
    obtain ⟨y0, bX, bY⟩ := S'.nat (by omega)
    walk_at "go"
    refine ⟨t, u, l, h, lo, hi, X, Y, rfl, Bt2.mono c3, fu, el.ch c3, eh.ch c3, bX, bY, S, fun H4 c4 Bt4 => ?_⟩
    walk_at "go"
    rw [if_neg (by decide)]
    walk_at "go"
    refine ⟨b, 2, rfl, (B2.mono c3).mono1 nbt c4, by decide, by decide +kernel, fun r2 H5 s0 s1 c5 B5 => ?_⟩
    have c25 : Ch [b, t] H2 H5 := (c3.of0.trans (toR c4)).trans (toL c5)
    have eu : End K H5 1000 (.ref u) (some (X, Y)) := ⟨u, rfl, c5.sqT (c4.sqT fu), y0, bX, bY⟩
    walk_at "go"
    refine ite_d (fun k0 => ?_) (fun k0 => ?_)
    · walk_at "go"
      refine ⟨c2.trans c25, B5, Bt4.mono1 (Ne.symm nbt) c5, .ref u, h, some (X, Y), hi, _, _, rfl, eu, eh.ch c25, S', sh.up, fun n d m e e1 e2 => ?_⟩
      cases e1
      subst e2
      exact S.bl
    · walk_at "go"
      refine ⟨c2.trans c25, B5, Bt4.mono1 (Ne.symm nbt) c5, l, .ref u, lo, some (X, Y), _, _, rfl, el.ch c25, eu, sl.up, S', fun n d m e e1 e2 => ?_⟩
      cases e2
      subst e1
      exact S.ab
  · rintro σ H2 ⟨c2, B2, Bt2, l, h, lo, hi, z1, z2, rfl, el, eh, sl, sh, nm⟩
    walk_at "go"
    refine ⟨rfl, ?_⟩
    walk_at "go"
    cases lo with
    | none =>
      obtain rfl : l = .non := el
      refine ite_T nn_non ?_
      refine ite_t ?_
      walk_at "go"
      exact q _ c2 B2
    | some p =>
      obtain ⟨n, d⟩ := p
      obtain ⟨a, rfl, fa, d0, bn, bd⟩ := el
      refine ite_F nn_ref ?_
      walk_at "go"
      refine ⟨rfl, ?_⟩
      walk_at "go"
      cases hi with
      | none =>
        obtain rfl : h = .non := eh
        refine ite_T nn_non ?_
        walk_at "go"
        exact q _ c2 B2
      | some p2 =>
        obtain ⟨m, e⟩ := p2
        obtain ⟨a2, rfl, fa2, e0, bm, be⟩ := eh
        refine ite_F nn_ref ?_
        walk_at "go"
        have lt := nm n d m e rfl rfl
        exact ⟨a2, a, m, e, n, d, 1000, rfl, fa2, fa, e0, d0, bm, be, bn, bd, by decide, by omega, fun H3 c3 => q _ (c2.trans0 c3) (B2.mono c3)⟩
end
end My

namespace My
open PySem PySem.Spec PyProof.Rows L2
section
variable {P : Program} {w : World} {K : PySem.W.Frag} {mg : Str → Option Value} {base : Heap}
abbrev s__law_size : Stmt := topS 39
theorem sc__law_size : FnScope ["box", "count"] ["box", "count"] (defScope s__law_size) := ⟨rfl, rfl, rfl, by decide +kernel, rfl, by decide +kernel, by decide +kernel⟩
def sp__law_size : Sp := fun vs H Q _ => ∃ (b : Addr) (n : Int), vs = [.ref b, .int n] ∧ RB H b ∧ 1 ≤ n ∧ n ≤ 2 ∧ ∀ (r : Int) H', 1 ≤ r → r ≤ 10000000000 → Ch [b] H H' → RB H' b → Q (.int r) H'
theorem c__law_size (C__law_take : Cal P w K mg base 1 "_law_take" sp__law_take) (C__law_limbs : Cal P w K mg base 2 "_law_limbs" sp__law_limbs) {f : Addr} {fd : FuncData} (F : DefF K mg "_law_size" s__law_size ["box", "count"] f fd) : Cal P w K mg base 3 "_law_size" sp__law_size := by
  refine cal_of F sc__law_size (fun vs H Q E h => by obtain ⟨_, _, rfl, _⟩ := h; rfl) (fun cdv A outer s H vs Q E hr h => ?_)
  obtain ⟨b, n, rfl, B, n1, n2, q⟩ := h
  refine ⟨_, (pss_cons (ps_if (pt_cmpR op_eq (pe_cc C__law_take hr (by decide) (by rfl) (pa_cons (pv 0) (pa_cons pe_int pa_nil))) pe_int (nomark _)) (pss_one (ps_ret (pe_op op_add pe_int (pe_cc C__law_take hr (by decide) (by rfl) (pa_cons (pv 0) (pa_cons pe_int pa_nil)))))) pss_nil)
 (pss_one (ps_ret (pe_op op_add pe_int (pe_cc C__law_limbs hr (by decide) (by rfl) (pa_cons (pv 0) (pa_cons (pv 1) pa_nil))))))), ?_⟩
  refine w_start (σ := [some _, some _]) rfl ?_
  walk_at "go"
  refine ⟨b, 2, rfl, B, by decide, by decide +kernel, fun u H1 u0 u1 c1 B1 => ?_⟩
  walk_at "go"
  refine ite_d (fun h0 => ?_) (fun h0 => ?_)
  · walk_at "go"
    refine ⟨b, 3, rfl, B1, by decide, by decide +kernel, fun r H2 r0 r1 c2 B2 => ?_⟩
    walk_at "go"
    exact q _ H2 (by omega) (by omega) (c1.trans c2) B2
  · walk_at "go"
    refine ⟨b, n, rfl, B1, by omega, by omega, fun r H2 r0 r1 c2 B2 => ?_⟩
    walk_at "go"
    have l := pow_le (a := 100000) (by decide) (show n.toNat ≤ 2 by omega)
    have e : (100000 : Int) ^ 2 = 10000000000 := by decide +kernel
    exact q _ H2 (by omega) (by omega) (c1.trans c2) B2
abbrev s__law_whole_ends : Stmt := topS 40
theorem sc__law_whole_ends : FnScope ["box", "way", "above", "low", "number", "bottom"] ["box"] (defScope s__law_whole_ends) := ⟨rfl, rfl, rfl, by decide +kernel, rfl, by decide +kernel, by decide +kernel⟩
def sp__law_whole_ends (K : PySem.W.Frag) : Sp := fun vs H Q _ => ∃ (b : Addr), vs = [.ref b] ∧ RB H b ∧ ∀ (o : Addr) (l h : V) (N : Int) (lo hi : Option (Int × Int)) H', Kn N lo hi → N.natAbs < 2 ^ 140 → Ch [b] H H' → RB H' b → SqT K H' o [.int N, l, h] → End K H' 1000 l lo → End K H' 1000 h hi → Q (.ref o) H'
theorem low_pos {t b n d : Int} (L : Low t b n d) (hb : 0 < b) {N : Int} (h : N * b < t) : N * d < n := by
  refine lt_of_mul hb ?_
  have e := L.eq
  have p := L.pos
  have m := Int.mul_lt_mul_of_pos_left h p
  have e2 : N * d * b = d * (N * b) := by rw [Int.mul_comm N d, Int.mul_assoc]
  omega
theorem low_neg {t b n d : Int} (L : Low t b n d) (hb : 0 < b) {N : Int} (h : t < N * b) : n < N * d := by
  refine lt_of_mul hb ?_
  have e := L.eq
  have p := L.pos
  have m := Int.mul_lt_mul_of_pos_left h p
  have e2 : N * d * b = d * (N * b) := by rw [Int.mul_comm N d, Int.mul_assoc]
  omega
theorem low_ge {t b n d : Int} (L : Low t b n d) (hb : 0 < b) {N : Int} (h : N * b ≤ t) : N * d ≤ n := by
  by_cases c : N * d ≤ n
  · exact c
  · exfalso
    have e := L.eq
    have p := L.pos
    have m := Int.mul_le_mul_of_nonneg_left h (show 0 ≤ d by omega)
    have m2 := Int.mul_lt_mul_of_pos_right (show n < N * d by omega) hb
    have e2 : N * d * b = d * (N * b) := by rw [Int.mul_comm N d, Int.mul_assoc]
    omega
theorem c__law_whole_ends (C__law_take : Cal P w K mg base 1 "_law_take" sp__law_take) (C__law_size : Cal P w K mg base 3 "_law_size" sp__law_size) (C__law_limbs : Cal P w K mg base 2 "_law_limbs" sp__law_limbs) (C__law_lowest : Cal P w K mg base 2 "_law_lowest" (sp__law_lowest K))
    {f : Addr} {fd : FuncData} (F : DefF K mg "_law_whole_ends" s__law_whole_ends ["box"] f fd) : Cal P w K mg base 4 "_law_whole_ends" (sp__law_whole_ends K) := by
  refine cal_of F sc__law_whole_ends (fun vs H Q E h => by obtain ⟨_, rfl, _⟩ := h; rfl) (fun cdv A outer s H vs Q E hr h => ?_)
  obtain ⟨b, rfl, B, q⟩ := h
  refine ⟨_, (pss_cons (ps_set (i := 1) sc__law_whole_ends.nd rfl (Or.inl rfl) (pe_cc C__law_take hr (by decide) (by rfl) (pa_cons (pv 0) (pa_cons pe_int pa_nil))))
 (pss_cons (ps_set (i := 2) sc__law_whole_ends.nd rfl (Or.inl rfl) pe_non)
 (Evl.pss_cut (ps_if (pt_cmpR op_gt (pe_cc C__law_take hr (by decide) (by rfl) (pa_cons (pv 0) (pa_cons pe_int pa_nil))) pe_int (nomark _)) (pss_one (ps_set (i := 2) sc__law_whole_ends.nd rfl (Or.inl rfl) (pe_tup (pa_cons (pe_cc C__law_size hr (by decide) (by rfl) (pa_cons (pv 0) (pa_cons pe_int pa_nil))) (pa_cons (pe_cc C__law_size hr (by decide) (by rfl) (pa_cons (pv 0) (pa_cons pe_int pa_nil))) pa_nil))))) pss_nil)
 (pss_cons (ps_if (pt_cmpR op_eq (pv 1) pe_int (nomark _)) (pss_cons (ps_set (i := 3) sc__law_whole_ends.nd rfl (Or.inl rfl) pe_non)
 (Evl.pss_cut (ps_if (pt_cmpR op_gt (pe_cc C__law_take hr (by decide) (by rfl) (pa_cons (pv 0) (pa_cons pe_int pa_nil))) pe_int (nomark _)) (pss_one (ps_set (i := 3) sc__law_whole_ends.nd rfl (Or.inl rfl) (pe_cc C__law_lowest hr (by decide) (by rfl) (pa_cons (pe_un un_neg (pe_cc C__law_size hr (by decide) (by rfl) (pa_cons (pv 0) (pa_cons pe_int pa_nil)))) (pa_cons (pe_cc C__law_size hr (by decide) (by rfl) (pa_cons (pv 0) (pa_cons pe_int pa_nil))) pa_nil))))) pss_nil)
 (pss_cons (ps_if (pt_cmpR op_isN (pv 2) pe_non (nomark _)) (pss_one (ps_ret (pe_tup (pa_cons pe_int (pa_cons (pv 3) (pa_cons pe_non pa_nil)))))) pss_nil)
 (pss_one (ps_ret (pe_tup (pa_cons pe_int (pa_cons (pv 3) (pa_cons (pe_cc C__law_lowest hr (by decide) (by rfl) (pa_cons (pe_ix (k_ixT (K := K) rfl) (pv 2) pe_int (fun _ _ => rfl)) (pa_cons (pe_ix (k_ixT (K := K) rfl) (pv 2) pe_int (fun _ _ => rfl)) pa_nil))) pa_nil))))))))) pss_nil)
 (pss_cons (ps_set (i := 4) sc__law_whole_ends.nd rfl (Or.inl rfl) (pe_op op_add pe_int (pe_cc C__law_take hr (by decide) (by rfl) (pa_cons (pv 0) (pa_cons pe_int pa_nil)))))
 (Evl.pss_cut (ps_if (pt_cmpR op_eq (pv 1) pe_int (nomark _)) (pss_one (ps_set (i := 4) sc__law_whole_ends.nd rfl (Or.inl rfl) (pe_op op_add pe_int (pe_cc C__law_limbs hr (by decide) (by rfl) (pa_cons (pv 0) (pa_cons pe_int pa_nil)))))) pss_nil)
 (pss_cons (ps_set (i := 5) sc__law_whole_ends.nd rfl (Or.inl rfl) (pe_cc C__law_size hr (by decide) (by rfl) (pa_cons (pv 0) (pa_cons pe_int pa_nil))))
 (pss_cons (ps_set (i := 3) sc__law_whole_ends.nd rfl (Or.inl rfl) (pe_cc C__law_lowest hr (by decide) (by rfl) (pa_cons (pe_op op_sub (pe_op op_sub (pe_op op_mulG (pv 4) (pv 5)) pe_int) (pe_cc C__law_take hr (by decide) (by rfl) (pa_cons (pv 0) (pa_cons (pv 5) pa_nil)))) (pa_cons (pv 5) pa_nil))))
 (pss_cons (ps_if (pt_cmpR op_isN (pv 2) pe_non (nomark _)) (pss_one (ps_ret (pe_tup (pa_cons (pv 4) (pa_cons (pv 3) (pa_cons pe_non pa_nil)))))) pss_nil)
 (pss_one (ps_ret (pe_tup (pa_cons (pv 4) (pa_cons (pv 3) (pa_cons (pe_cc C__law_lowest hr (by decide) (by rfl) (pa_cons (pe_op op_add (pe_op op_mulG (pv 4) (pe_ix (k_ixT (K := K) rfl) (pv 2) pe_int (fun _ _ => rfl))) (pe_ix (k_ixT (K := K) rfl) (pv 2) pe_int (fun _ _ => rfl))) (pa_cons (pe_ix (k_ixT (K := K) rfl) (pv 2) pe_int (fun _ _ => rfl)) pa_nil))) pa_nil))))))))))))))), ?_⟩
  refine w_start (σ := [some _, none, none, none, none, none]) rfl ?_
  have sm : ∀ {x : Int} {j : Nat}, x.natAbs < 2 ^ j → j ≤ 1000 → x.natAbs < 2 ^ 1000 := fun h hj => abs_mono h hj
  walk_at "go"
  refine ⟨b, 3, rfl, B, by decide, by decide +kernel, fun way H1 w0 w1 c1 B1 => ?_⟩
  walk_at "go"
  refine w_cut (M := fun σ' H' => Ch [b] H H' ∧ RB H' b ∧ ∃ (av : V) (ao : Option (Int × Int)), σ' = [some (.ref b), some (.int way), some av, none, none, none] ∧ End K H' 40 av ao ∧ ∀ s t, ao = some (s, t) → 1 ≤ s) ?_ ?_
  · walk_at "go"
    refine ⟨b, 4, rfl, B1, by decide, by decide +kernel, fun u H2 u0 u1 c2 B2 => ?_⟩
    walk_at "go"
    refine ite_d (fun h0 => ?_) (fun h0 => ?_)
    · walk_at "go"
      refine ⟨b, 2, rfl, B2, by decide, by decide, fun s1 H3 s0 s2 c3 B3 => ?_⟩
      walk_at "go"
      refine ⟨b, 1, rfl, B3, by decide, by decide, fun t1 H4 t0 t2 c4 B4 => ?_⟩
      walk_at "go"
      refine w_newT (show 2 ≤ sizeLine by decide) fun a H5 n5 c5 h5 => ?_
      exact ⟨(((c1.trans c2).trans c3).trans c4).trans0 c5, B4.mono c5, .ref a, some (s1, t1), rfl, ⟨a, rfl, .of h5, by omega, by omega, by omega⟩, fun x y e => by cases e; exact s0⟩
    · walk_at "go"
      exact ⟨c1.trans c2, B2, .non, none, rfl, rfl, fun x y e => nomatch e⟩
  rintro σ' H2 ⟨c2, B2, av, ao, rfl, ea, ap⟩
  walk_at "go"
  refine ite_d (fun h0 => ?_) (fun h0 => ?_)
  · walk_at "go"
    refine w_cut (M := fun σ' H' => Ch [b] H2 H' ∧ RB H' b ∧ ∃ (l : V) (lo : Option (Int × Int)), σ' = [some (.ref b), some (.int way), some av, some l, none, none] ∧ End K H' 1000 l lo ∧ Abv 0 1 lo) ?_ ?_
    · walk_at "go"
      refine ⟨b, 4, rfl, B2, by decide, by decide +kernel, fun u H3 u0 u1 c3 B3 => ?_⟩
      walk_at "go"
      refine ite_d (fun h1 => ?_) (fun h1 => ?_)
      · walk_at "go"
        refine ⟨b, 2, rfl, B3, by decide, by decide, fun s1 H4 s0 s2 c4 B4 => ?_⟩
        walk_at "go"
        refine ⟨b, 1, rfl, B4, by decide, by decide, fun t1 H5 t0 t2 c5 B5 => ?_⟩
        walk_at "go"
        refine ⟨_, _, rfl, by omega, abs_mono (a := 40) (by omega) (by decide), fun a n d H6 L c6 fa => ?_⟩
        walk_at "go"
        have ln := L.ln
        have ld := L.ld
        refine ⟨((c3.trans c4).trans c5).trans0 c6, B5.mono c6, .ref a, some (n, d), rfl, ⟨a, rfl, fa, L.pos, sm (j := 40) (by omega) (by decide), sm (j := 40) (by omega) (by decide)⟩, ?_⟩
        have := low_neg L (by omega) (N := 0) (by omega)
        show n * 1 < 0 * d
        omega
      · walk_at "go"
        exact ⟨c3, B3, .non, none, rfl, rfl, trivial⟩
    rintro σ' H3 ⟨c3, B3, l, lo, rfl, el, ab⟩
    walk_at "go"
    refine ⟨rfl, ?_⟩
    walk_at "go"
    have ea3 := ea.ch c3
    cases ao with
    | none =>
      obtain rfl : av = .non := ea3
      refine ite_T nn_non ?_
      walk_at "go"
      refine w_newT (show 3 ≤ sizeLine by decide) fun o H4 n4 c4 h4 => ?_
      exact q o l .non 0 lo none H4 ⟨by decide, ab, trivial, fun z => by omega⟩ (by decide +kernel) ((c2.trans c3).trans0 c4) (B3.mono c4) (.of h4) (el.ch c4) rfl
    | some p =>
      obtain ⟨s1, t1⟩ := p
      obtain ⟨a, rfl, fa, t0, bs, bt⟩ := ea3
      have s0 := ap s1 t1 rfl
      refine ite_F nn_ref ?_
      walk_at "go"
      refine ⟨s1, t1, rfl, by omega, abs_mono bt (by decide), fun a2 n d H4 L c4 fa2 => ?_⟩
      walk_at "go"
      refine w_newT (show 3 ≤ sizeLine by decide) fun o H5 n5 c5 h5 => ?_
      have ln := L.ln
      have ld := L.ld
      have lp := low_pos L t0 (N := 0) (by omega)
      exact q o l (.ref a2) 0 lo (some (n, d)) H5 ⟨by decide, ab, (show 0 * d < n * 1 by omega), fun z => by omega⟩ (by decide +kernel) (((c2.trans c3).trans0 c4).trans0 c5) ((B3.mono c4).mono c5) (.of h5) ((el.ch c4).ch c5)
        ⟨a2, rfl, c5.sqT fa2, L.pos, sm (j := 40) (by omega) (by decide), sm (j := 40) (by omega) (by decide)⟩
  · walk_at "go"
    refine ⟨b, 20, rfl, B2, by decide, by decide +kernel, fun u H3 u0 u1 c3 B3 => ?_⟩
    walk_at "go"
    refine w_cut (M := fun σ' H' => Ch [b] H2 H' ∧ RB H' b ∧ ∃ N : Int, σ' = [some (.ref b), some (.int way), some av, none, some (.int N), none] ∧ 0 < N ∧ N.natAbs < 2 ^ 102) ?_ ?_
    · walk_at "go"
      refine ite_d (fun h1 => ?_) (fun h1 => ?_)
      · walk_at "go"
        refine ⟨b, 6, rfl, B3, by decide, by decide, fun r H4 r0 r1 c4 B4 => ?_⟩
        walk_at "go"
        have e6 : (100000 : Int) ^ Int.toNat 6 = 1000000000000000000000000000000 := by decide +kernel
        rw [e6] at r1
        exact ⟨c3.trans c4, B4, _, rfl, by omega, by omega⟩
      · walk_at "go"
        exact ⟨c3, B3, _, rfl, by omega, by omega⟩
    rintro σ' H4 ⟨c4, B4, N, rfl, N0, bN⟩
    walk_at "go"
    refine ⟨b, 1, rfl, B4, by decide, by decide, fun t1 H5 t0 t2 c5 B5 => ?_⟩
    have bt1 : t1.natAbs < 2 ^ 40 := by omega
    walk_at "go"
    refine w_I (mul_ok bN bt1 (by decide)) ?_
    walk_at "go"
    refine ⟨b, t1, rfl, B5, by omega, abs_mono bt1 (by decide), fun k H6 k0 k1 c6 B6 => ?_⟩
    walk_at "go"
    have bm := mul_bd bN bt1
    have mp := le_mul_pos (show 0 ≤ t1 by omega) (show 1 ≤ N by omega)
    rw [Int.mul_comm] at mp
    refine ⟨_, _, rfl, by omega, abs_mono bt1 (by decide), fun a n d H7 L c7 fa => ?_⟩
    have ln := L.ln
    have ld := L.ld
    have e1 : (N - 1) * t1 = N * t1 - t1 := by rw [Int.sub_mul, Int.one_mul]
    have i1 := low_ge L (by omega) (N := N - 1) (by omega)
    have i2 := low_neg L (by omega) (N := N) (by omega)
    have ea7 := ((((ea.ch c4).ch c5).ch c6)).ch c7
    have c47 := ((c4.trans c5).trans c6).trans0 c7
    have el : End K H7 1000 (.ref a) (some (n, d)) := ⟨a, rfl, fa, L.pos, sm (j := 142) (by omega) (by decide), sm (j := 40) (by omega) (by decide)⟩
    have ab : Abv N 1 (some (n, d)) := show n * 1 < N * d by omega
    walk_at "go"
    refine ⟨rfl, ?_⟩
    walk_at "go"
    cases ao with
    | none =>
      obtain rfl : av = .non := ea7
      refine ite_T nn_non ?_
      walk_at "go"
      refine w_newT (show 3 ≤ sizeLine by decide) fun o H8 n8 c8 h8 => ?_
      exact q o (.ref a) .non N (some (n, d)) none H8 ⟨by omega, ab, trivial, fun _ => ⟨n, d, rfl, L.pos, i1⟩⟩ (abs_mono bN (by decide)) ((c2.trans c47).trans0 c8) ((B6.mono c7).mono c8) (.of h8) (el.ch c8) rfl
    | some p =>
      obtain ⟨x1, y1⟩ := p
      obtain ⟨a2, rfl, fa2, y0, bx, by'⟩ := ea7
      have x0 := ap x1 y1 rfl
      refine ite_F nn_ref ?_
      walk_at "go"
      refine w_I (mul_ok bN by' (by decide)) ?_
      walk_at "go"
      have bm2 := mul_bd bN by'
      have mp2 := le_mul_pos (show 0 ≤ y1 by omega) (show 1 ≤ N by omega)
      rw [Int.mul_comm] at mp2
      refine ⟨_, _, rfl, by omega, abs_mono by' (by decide), fun a3 n3 d3 H8 L3 c8 fa3 => ?_⟩
      walk_at "go"
      refine w_newT (show 3 ≤ sizeLine by decide) fun o H9 n9 c9 h9 => ?_
      have ln3 := L3.ln
      have ld3 := L3.ld
      have i3 := low_pos L3 y0 (N := N) (by omega)
      exact q o (.ref a) (.ref a3) N (some (n, d)) (some (n3, d3)) H9 ⟨by omega, ab, (show N * d3 < n3 * 1 by omega), fun _ => ⟨n, d, rfl, L.pos, i1⟩⟩ (abs_mono bN (by decide)) (((c2.trans c47).trans0 c8).trans0 c9) (((B6.mono c7).mono c8).mono c9) (.of h9) ((el.ch c8).ch c9)
        ⟨a3, rfl, c9.sqT fa3, L3.pos, sm (j := 144) (by omega) (by decide), sm (j := 40) (by omega) (by decide)⟩
abbrev s__law_mirrored : Stmt := topS 41
theorem sc__law_mirrored : FnScope ["end"] ["end"] (defScope s__law_mirrored) := ⟨rfl, rfl, rfl, by decide +kernel, rfl, by decide +kernel, by decide +kernel⟩
def sp__law_mirrored (K : PySem.W.Frag) : Sp := fun vs H Q _ => ∃ (l : V) (lo : Option (Int × Int)), vs = [l] ∧ End K H 1000 l lo ∧ ∀ (v : V) H', End K H' 1000 v (ng lo) → Ch [] H H' → Q v H'
theorem c__law_mirrored {f : Addr} {fd : FuncData} (F : DefF K mg "_law_mirrored" s__law_mirrored ["end"] f fd) : Cal P w K mg base 1 "_law_mirrored" (sp__law_mirrored K) := by
  refine cal_of F sc__law_mirrored (fun vs H Q E h => by obtain ⟨_, _, rfl, _⟩ := h; rfl) (fun cdv A outer s H vs Q E hr h => ?_)
  obtain ⟨l, lo, rfl, el, q⟩ := h
  refine ⟨_, (pss_cons (ps_if (pt_cmpR op_isN (pv 0) pe_non (nomark _)) (pss_one (ps_ret pe_non)) pss_nil)
 (pss_one (ps_ret (pe_tup (pa_cons (pe_un un_neg (pe_ix (k_ixT (K := K) rfl) (pv 0) pe_int (fun _ _ => rfl))) (pa_cons (pe_ix (k_ixT (K := K) rfl) (pv 0) pe_int (fun _ _ => rfl)) pa_nil)))))), ?_⟩
  refine w_start (σ := [some _]) rfl ?_
  walk_at "go"
  refine ⟨rfl, ?_⟩
  walk_at "go"
  cases lo with
  | none =>
    obtain rfl : l = .non := el
    refine ite_T nn_non ?_
    walk_at "go"
    exact q _ _ (rfl : End K H 1000 V.non none) .refl
  | some p =>
    obtain ⟨n, d⟩ := p
    obtain ⟨a, rfl, fa, d0, bn, bd⟩ := el
    refine ite_F nn_ref ?_
    walk_at "go"
    refine w_newT (show 2 ≤ sizeLine by decide) fun t H1 n1 c1 h1 => ?_
    exact q (.ref t) H1 ⟨t, rfl, .of h1, d0, by omega, bd⟩ c1
abbrev s__law_whole_holds : Stmt := topS 42
theorem sc__law_whole_holds : FnScope ["box", "built"] ["box"] (defScope s__law_whole_holds) := ⟨rfl, rfl, rfl, by decide +kernel, rfl, by decide +kernel, by decide +kernel⟩
def sp__law_whole_holds (K : PySem.W.Frag) : Sp := fun vs H Q _ => ∃ (b : Addr), vs = [.ref b] ∧ RB H b ∧ ∀ H', Ch [b] H H' → Q (.bl true) H'
theorem Kn.nem {K : PySem.W.Frag} {H : Hp} {l h : V} {N : Int} {lo hi : Option (Int × Int)} (k : Kn N lo hi) (el : End K H 1000 l lo) (eh : End K H 1000 h hi) : Nem lo hi := fun n d m e e1 e2 => by
  subst e1 e2
  obtain ⟨_, _, _, d0, _⟩ := el
  obtain ⟨_, _, _, e0, _⟩ := eh
  have a : n * 1 < N * d := k.ab
  have b : N * e < m * 1 := k.bl
  have s1 := Int.mul_lt_mul_of_pos_right (show n < N * d by omega) e0
  have s2 := Int.mul_lt_mul_of_pos_right (show N * e < m by omega) d0
  have s3 : N * d * e = N * e * d := Int.mul_right_comm _ _ _
  omega
theorem Nem.ng {lo hi : Option (Int × Int)} (h : Nem lo hi) : Nem (ng hi) (ng lo) := fun n d m e e1 e2 => by
  cases lo with
  | none => cases e2
  | some p => cases hi with
    | none => cases e1
    | some p2 =>
      obtain ⟨a, b⟩ := p
      obtain ⟨a2, b2⟩ := p2
      cases e1
      cases e2
      have := h a _ a2 _ rfl rfl
      rw [Int.neg_mul, Int.neg_mul]
      omega
theorem c__law_whole_holds {A_InvalidStretch : Addr} (C_between : CalN P w K mg base 3 "between" (sp_between K A_InvalidStretch)) (C__law_same : Cal P w K mg base 2 "_law_same" (sp__law_same K)) (C__law_whole_ends : Cal P w K mg base 4 "_law_whole_ends" (sp__law_whole_ends K)) (C__law_mirrored : Cal P w K mg base 1 "_law_mirrored" (sp__law_mirrored K))
    {f : Addr} {fd : FuncData} (F : DefF K mg "_law_whole_holds" s__law_whole_holds ["box"] f fd) : Cal P w K mg base 5 "_law_whole_holds" (sp__law_whole_holds K) := by
  refine cal_of F sc__law_whole_holds (fun vs H Q E h => by obtain ⟨_, rfl, _⟩ := h; rfl) (fun cdv A outer s H vs Q E hr h => ?_)
  obtain ⟨b, rfl, B, q⟩ := h
  refine ⟨_, (pss_cons (ps_set (i := 1) sc__law_whole_holds.nd rfl (Or.inl rfl) (pe_cc C__law_whole_ends hr (by decide) (by rfl) (pa_cons (pv 0) pa_nil)))
 (pss_cons (ps_if (pt_not (pt_val (pe_cc C__law_same hr (by decide) (by rfl) (pa_cons (pe_ccN C_between hr (by decide) (by rfl) (pa_cons (pe_ix (k_ixT (K := K) rfl) (pv 1) pe_int (fun _ _ => rfl)) (pa_cons (pe_ix (k_ixT (K := K) rfl) (pv 1) pe_int (fun _ _ => rfl)) pa_nil))) (pa_cons (pe_tup (pa_cons (pe_ix (k_ixT (K := K) rfl) (pv 1) pe_int (fun _ _ => rfl)) (pa_cons pe_int pa_nil))) pa_nil))))) (pss_one (ps_ret pe_bl)) pss_nil)
 (pss_one (ps_ret (pe_cc C__law_same hr (by decide) (by rfl) (pa_cons (pe_ccN C_between hr (by decide) (by rfl) (pa_cons (pe_cc C__law_mirrored hr (by decide) (by rfl) (pa_cons (pe_ix (k_ixT (K := K) rfl) (pv 1) pe_int (fun _ _ => rfl)) pa_nil)) (pa_cons (pe_cc C__law_mirrored hr (by decide) (by rfl) (pa_cons (pe_ix (k_ixT (K := K) rfl) (pv 1) pe_int (fun _ _ => rfl)) pa_nil)) pa_nil))) (pa_cons (pe_tup (pa_cons (pe_un un_neg (pe_ix (k_ixT (K := K) rfl) (pv 1) pe_int (fun _ _ => rfl))) (pa_cons pe_int pa_nil))) pa_nil))))))), ?_⟩
  refine w_start (σ := [some _, none]) rfl ?_
  walk_at "go"
  refine ⟨b, rfl, B, fun o l h N lo hi H1 k bN c1 B1 ho el eh => ?_⟩
  have nm := k.nem el eh
  walk_at "go"
  refine ⟨l, h, lo, hi, 1000, rfl, el, eh, by decide, fun n d m e e1 e2 le => absurd (nm n d m e e1 e2) (by omega), fun _ t X Y H2 S c2 ft => ?_⟩
  obtain ⟨rfl, rfl⟩ := k.eq S
  have ho2 := c2.sqT ho
  walk_at "go"
  refine w_newT (show 2 ≤ sizeLine by decide) fun t2 H3 n3 c3 h3 => ?_
  walk_at "go"
  refine ⟨t, t2, [X, 1], [X, 1], rfl, c3.sqT ft, .of h3, by simp, by simp, ?_⟩
  rw [decide_eq_true rfl]
  have ho3 := c3.sqT ho2
  have c13 := c2.trans c3
  walk_at "go"
  rw [if_neg (by decide)]
  walk_at "go"
  refine ⟨h, hi, rfl, eh.ch c13, fun v1 H4 ev1 c4 => ?_⟩
  have ho4 := c4.sqT ho3
  walk_at "go"
  refine ⟨l, lo, rfl, (el.ch c13).ch c4, fun v2 H5 ev2 c5 => ?_⟩
  have ho5 := c5.sqT ho4
  have nm2 := nm.ng
  walk_at "go"
  refine ⟨v1, v2, ng hi, ng lo, 1000, rfl, ev1.ch c5, ev2, by decide, fun n d m e e1 e2 le => absurd (nm2 n d m e e1 e2) (by omega), fun _ t3 X3 Y3 H6 S3 c6 ft3 => ?_⟩
  obtain ⟨x1, x2⟩ := k.eq S3.neg
  have ho6 := c6.sqT ho5
  walk_at "go"
  refine w_newT (show 2 ≤ sizeLine by decide) fun t4 H7 n7 c7 h7 => ?_
  refine ⟨t3, t4, [X3, Y3], [-X, 1], rfl, c7.sqT ft3, .of h7, by simp, by simp, ?_⟩
  rw [decide_eq_true (by rw [x2, show X3 = -X by omega])]
  exact q _ ((((((c1.trans0 c2).trans0 c3).trans0 c4).trans0 c5).trans0 c6).trans0 c7)
end
end My

namespace My
open PySem PySem.Spec PyProof.Rows L2
section
variable {P : Program} {w : World} {K : PySem.W.Frag} {mg : Str → Option Value} {base : Heap}
/-- two neighbours -/
structure Nb (p q r s : Int) : Prop where
  q0 : 0 < q
  s0 : 0 < s
  dt : r * q - p * s = 1
abbrev s__law_path : Stmt := topS 43
theorem sc__law_path : FnScope ["box", "start", "left", "right", "turn", "many"] ["box"] (defScope s__law_path) := ⟨rfl, rfl, rfl, by decide +kernel, rfl, by decide +kernel, by decide +kernel⟩
def sp__law_path (K : PySem.W.Frag) : Sp := fun vs H Q _ => ∃ (b : Addr), vs = [.ref b] ∧ RB H b ∧ ∀ (o u v : Addr) (p q r s : Int) H', Nb p q r s → p.natAbs < 2 ^ 300 → q.natAbs < 2 ^ 300 → r.natAbs < 2 ^ 300 → s.natAbs < 2 ^ 300 → Ch [b] H H' → RB H' b → SqT K H' o [.ref u, .ref v] → Fr K H' u p q → Fr K H' v r s → Q (.ref o) H'
theorem grow {x y m : Int} {a : Nat} (hx : x.natAbs < 2 ^ (a + 20)) (hy : y.natAbs < 2 ^ (a + 20)) (hm : m.natAbs < 2 ^ 18) : (x + m * y).natAbs < 2 ^ (a + 20 + 20) :=
  abs_mono (add_bd (abs_mono hx (show a + 20 ≤ 18 + (a + 20) by omega)) (mul_bd hm hy)) (by omega)
theorem c__law_path (T : Txt mg) (C__law_take : Cal P w K mg base 1 "_law_take" sp__law_take) (C__law_limbs : Cal P w K mg base 2 "_law_limbs" sp__law_limbs) {f : Addr} {fd : FuncData} (F : DefF K mg "_law_path" s__law_path ["box"] f fd) : Cal P w K mg base 3 "_law_path" (sp__law_path K) := by
  refine cal_of F sc__law_path (fun vs H Q E h => by obtain ⟨_, rfl, _⟩ := h; rfl) (fun cdv A outer s H vs Q E hr h => ?_)
  obtain ⟨b, rfl, B, q⟩ := h
  refine ⟨_, (pss_cons (ps_set (i := 1) sc__law_path.nd rfl (Or.inl rfl) (pe_op op_sub (pe_cc C__law_take hr (by decide) (by rfl) (pa_cons (pv 0) (pa_cons pe_int pa_nil))) pe_int))
 (pss_cons (ps_set (i := 2) sc__law_path.nd rfl (Or.inl rfl) (pe_tup (pa_cons (pv 1) (pa_cons pe_int pa_nil))))
 (pss_cons (ps_set (i := 3) sc__law_path.nd rfl (Or.inl rfl) (pe_tup (pa_cons (pe_op op_add (pv 1) pe_int) (pa_cons pe_int pa_nil))))
 (pss_cons (ps_for PassesOwn.never rfl (pi_range1 (by rfl) T.z_range (pa_cons (pe_cc C__law_take hr (by decide) (by rfl) (pa_cons (pv 0) (pa_cons pe_int pa_nil))) pa_nil)) (pg_name (i := 4) sc__law_path.nd rfl (Or.inl rfl)) (pss_cons (ps_set (i := 5) sc__law_path.nd rfl (Or.inl rfl) (pe_op op_add pe_int (pe_cc C__law_take hr (by decide) (by rfl) (pa_cons (pv 0) (pa_cons pe_int pa_nil)))))
 (Evl.pss_cut (ps_if (pt_cmpR op_eq (pe_cc C__law_take hr (by decide) (by rfl) (pa_cons (pv 0) (pa_cons pe_int pa_nil))) pe_int (nomark _)) (pss_one (ps_set (i := 5) sc__law_path.nd rfl (Or.inl rfl) (pe_op op_add pe_int (pe_cc C__law_limbs hr (by decide) (by rfl) (pa_cons (pv 0) (pa_cons pe_int pa_nil)))))) pss_nil)
 (pss_one (ps_if (pt_cmpR op_eq (pe_cc C__law_take hr (by decide) (by rfl) (pa_cons (pv 0) (pa_cons pe_int pa_nil))) pe_int (nomark _)) (pss_one (ps_set (i := 2) sc__law_path.nd rfl (Or.inl rfl) (pe_tup (pa_cons (pe_op op_add (pe_ix (k_ixT (K := K) rfl) (pv 2) pe_int (fun _ _ => rfl)) (pe_op op_mulG (pv 5) (pe_ix (k_ixT (K := K) rfl) (pv 3) pe_int (fun _ _ => rfl)))) (pa_cons (pe_op op_add (pe_ix (k_ixT (K := K) rfl) (pv 2) pe_int (fun _ _ => rfl)) (pe_op op_mulG (pv 5) (pe_ix (k_ixT (K := K) rfl) (pv 3) pe_int (fun _ _ => rfl)))) pa_nil))))) (pss_one (ps_set (i := 3) sc__law_path.nd rfl (Or.inl rfl) (pe_tup (pa_cons (pe_op op_add (pe_ix (k_ixT (K := K) rfl) (pv 3) pe_int (fun _ _ => rfl)) (pe_op op_mulG (pv 5) (pe_ix (k_ixT (K := K) rfl) (pv 2) pe_int (fun _ _ => rfl)))) (pa_cons (pe_op op_add (pe_ix (k_ixT (K := K) rfl) (pv 3) pe_int (fun _ _ => rfl)) (pe_op op_mulG (pv 5) (pe_ix (k_ixT (K := K) rfl) (pv 2) pe_int (fun _ _ => rfl)))) pa_nil))))))))))
 (pss_one (ps_ret (pe_tup (pa_cons (pv 2) (pa_cons (pv 3) pa_nil))))))))), ?_⟩
  refine w_start (σ := [some _, none, none, none, none, none]) rfl ?_
  walk_at "go"
  refine ⟨b, 2001, rfl, B, by decide, by decide +kernel, fun r0 H1 g0 g1 c1 B1 => ?_⟩
  walk_at "go"
  refine w_newT (show 2 ≤ sizeLine by decide) fun u H2 n2 c2 h2 => ?_
  walk_at "go"
  refine w_newT (show 2 ≤ sizeLine by decide) fun v H3 n3 c3 h3 => ?_
  walk_at "go"
  refine ⟨b, 7, rfl, (B1.mono c2).mono c3, by decide, by decide +kernel, fun cnt H4 k0 k1 c4 B4 => ?_⟩
  walk_at "go"
  refine w_iR1r (by omega) (by omega) ?_
  refine for_R (n := cnt.toNat) (fun i σ H' => Ch [b] H H' ∧ RB H' b ∧ ∃ (u v : Addr) (p q r s : Int) (z1 z2 : Option V), σ = [some (.ref b), some (.int (r0 - 1000)), some (.ref u), some (.ref v), z1, z2] ∧ Nb p q r s ∧ p.natAbs < 2 ^ (20 * i + 20) ∧ q.natAbs < 2 ^ (20 * i + 20) ∧ r.natAbs < 2 ^ (20 * i + 20) ∧ s.natAbs < 2 ^ (20 * i + 20) ∧ Fr K H' u p q ∧ Fr K H' v r s)
    ⟨((c1.trans0 c2).trans0 c3).trans c4, B4, u, v, r0 - 1000, 1, r0 - 1000 + 1, 1, none, none, rfl, ⟨by decide, by decide, by omega⟩, by simp only [Nat.mul_zero]; omega, by decide, by simp only [Nat.mul_zero]; omega, by decide, c4.sqT (c3.sqT (.of h2)), c4.sqT (.of h3)⟩ ?_ ?_
  · rintro i σ H5 hi ⟨c5, B5, u, v, p, qq, r, s', z1, z2, rfl, nb, bp, bq, br, bs, fu, fv⟩
    walk_at "go"
    refine ⟨b, 3, rfl, B5, by decide, by decide +kernel, fun m0 H6 x0 x1 c6 B6 => ?_⟩
    walk_at "go"
    refine w_cut (M := fun σ' H' => Ch [b] H5 H' ∧ RB H' b ∧ ∃ (m : Int) (z : Option V), σ' = [some (.ref b), some (.int (r0 - 1000)), some (.ref u), some (.ref v), z, some (.int m)] ∧ 1 ≤ m ∧ m.natAbs < 2 ^ 18) ?_ ?_
    · walk_at "go"
      refine ⟨b, 4, rfl, B6, by decide, by decide +kernel, fun y0 H7 y1 y2 c7 B7 => ?_⟩
      walk_at "go"
      refine ite_d (fun h0 => ?_) (fun h0 => ?_)
      · walk_at "go"
        refine ⟨b, 1, rfl, B7, by decide, by decide, fun l0 H8 l1 l2 c8 B8 => ?_⟩
        walk_at "go"
        have e1 : (100000 : Int) ^ Int.toNat 1 = 100000 := by decide +kernel
        rw [e1] at l2
        exact ⟨(c6.trans c7).trans c8, B8, _, _, rfl, by omega, by omega⟩
      · walk_at "go"
        exact ⟨c6.trans c7, B7, _, _, rfl, by omega, by omega⟩
    rintro σ' H7 ⟨c7, B7, m, z, rfl, m1, bm⟩
    walk_at "go"
    refine ⟨b, 2, rfl, B7, by decide, by decide +kernel, fun y0 H8 y1 y2 c8 B8 => ?_⟩
    have c58 := c7.trans c8
    have fu8 := c58.sqT fu
    have fv8 := c58.sqT fv
    have q0 := nb.q0
    have s0 := nb.s0
    have dt := nb.dt
    have ei : 20 * (i + 1) + 20 = 20 * i + 20 + 20 := by omega
    walk_at "go"
    refine ite_d (fun h0 => ?_) (fun h0 => ?_)
    · walk_at "go"
      refine w_I (mul_ok bm br (by omega)) ?_
      walk_at "go"
      refine w_I (mul_ok bm bs (by omega)) ?_
      walk_at "go"
      refine w_newT (show 2 ≤ sizeLine by decide) fun t H9 n9 c9 h9 => ?_
      walk_at "go"
      have ms : 0 < m * s' := Int.mul_pos (by omega) s0
      refine ⟨(c5.trans c58).trans0 c9, B8.mono c9, t, v, p + m * r, qq + m * s', r, s', _, _, rfl, ⟨by omega, s0, ?_⟩, by rw [ei]; exact grow bp br bm, by rw [ei]; exact grow bq bs bm, abs_mono br (by omega), abs_mono bs (by omega), .of h9, c9.sqT fv8⟩
      rw [Int.mul_add, Int.add_mul]
      have e1 : r * (m * s') = m * r * s' := by rw [Int.mul_left_comm, Int.mul_assoc]
      omega
    · walk_at "go"
      refine w_I (mul_ok bm bp (by omega)) ?_
      walk_at "go"
      refine w_I (mul_ok bm bq (by omega)) ?_
      walk_at "go"
      refine w_newT (show 2 ≤ sizeLine by decide) fun t H9 n9 c9 h9 => ?_
      walk_at "go"
      have ms : 0 < m * qq := Int.mul_pos (by omega) q0
      refine ⟨(c5.trans c58).trans0 c9, B8.mono c9, u, t, p, qq, r + m * p, s' + m * qq, _, _, rfl, ⟨q0, by omega, ?_⟩, abs_mono bp (by omega), abs_mono bq (by omega), by rw [ei]; exact grow br bp bm, by rw [ei]; exact grow bs bq bm, c9.sqT fu8, .of h9⟩
      rw [Int.mul_add, Int.add_mul]
      have e1 : p * (m * qq) = m * p * qq := by rw [Int.mul_left_comm, Int.mul_assoc]
      omega
  · rintro σ H5 ⟨c5, B5, u, v, p, qq, r, s', z1, z2, rfl, nb, bp, bq, br, bs, fu, fv⟩
    walk_at "go"
    refine w_newT (show 2 ≤ sizeLine by decide) fun o H6 n6 c6 h6 => ?_
    exact q o u v p qq r s' H6 nb (abs_mono bp (by omega)) (abs_mono bq (by omega)) (abs_mono br (by omega)) (abs_mono bs (by omega)) (c5.trans0 c6) (B5.mono c6) (.of h6) (c6.sqT fu) (c6.sqT fv)
abbrev s__law_toward : Stmt := topS 44
theorem sc__law_toward : FnScope ["box", "end", "middle", "one", "two"] ["box", "end", "middle"] (defScope s__law_toward) := ⟨rfl, rfl, rfl, by decide +kernel, rfl, by decide +kernel, by decide +kernel⟩
def sp__law_toward (K : PySem.W.Frag) : Sp := fun vs H Q _ => ∃ (b a c : Addr) (n d m e : Int), vs = [.ref b, .ref a, .ref c] ∧ RB H b ∧ Fr K H a n d ∧ Fr K H c m e ∧ 0 < d ∧ 0 < e ∧ n.natAbs < 2 ^ 301 ∧ d.natAbs < 2 ^ 301 ∧ m.natAbs < 2 ^ 301 ∧ e.natAbs < 2 ^ 301 ∧
  ∀ (t : Addr) (x y g k : Int) H', 1 ≤ g → 0 ≤ k → Low (n * g + m * k) (d * g + e * k) x y → x.natAbs < 2 ^ 400 → y.natAbs < 2 ^ 400 → Ch [b] H H' → RB H' b → Fr K H' t x y → Q (.ref t) H'
theorem c__law_toward (C__law_take : Cal P w K mg base 1 "_law_take" sp__law_take) (C__law_limbs : Cal P w K mg base 2 "_law_limbs" sp__law_limbs) (C__law_lowest : Cal P w K mg base 2 "_law_lowest" (sp__law_lowest K)) {f : Addr} {fd : FuncData} (F : DefF K mg "_law_toward" s__law_toward ["box", "end", "middle"] f fd) :
    Cal P w K mg base 3 "_law_toward" (sp__law_toward K) := by
  refine cal_of F sc__law_toward (fun vs H Q E h => by obtain ⟨_, _, _, _, _, _, _, rfl, _⟩ := h; rfl) (fun cdv A outer s H vs Q E hr h => ?_)
  obtain ⟨b, a, c, n, d, m, e, rfl, B, fa, fc, d0, e0, bn, bd, bm, be, q⟩ := h
  refine ⟨_, (pss_cons (ps_set (i := 3) sc__law_toward.nd rfl (Or.inl rfl) (pe_op op_add pe_int (pe_cc C__law_take hr (by decide) (by rfl) (pa_cons (pv 0) (pa_cons pe_int pa_nil)))))
 (pss_cons (ps_set (i := 4) sc__law_toward.nd rfl (Or.inl rfl) (pe_cc C__law_take hr (by decide) (by rfl) (pa_cons (pv 0) (pa_cons pe_int pa_nil))))
 (Evl.pss_cut (ps_if (pt_cmpR op_eq (pe_cc C__law_take hr (by decide) (by rfl) (pa_cons (pv 0) (pa_cons pe_int pa_nil))) pe_int (nomark _)) (pss_one (ps_set (i := 4) sc__law_toward.nd rfl (Or.inl rfl) (pe_cc C__law_limbs hr (by decide) (by rfl) (pa_cons (pv 0) (pa_cons pe_int pa_nil))))) pss_nil)
 (pss_one (ps_ret (pe_cc C__law_lowest hr (by decide) (by rfl) (pa_cons (pe_op op_add (pe_op op_mulG (pe_ix (k_ixT (K := K) rfl) (pv 1) pe_int (fun _ _ => rfl)) (pv 3)) (pe_op op_mulG (pe_ix (k_ixT (K := K) rfl) (pv 2) pe_int (fun _ _ => rfl)) (pv 4))) (pa_cons (pe_op op_add (pe_op op_mulG (pe_ix (k_ixT (K := K) rfl) (pv 1) pe_int (fun _ _ => rfl)) (pv 3)) (pe_op op_mulG (pe_ix (k_ixT (K := K) rfl) (pv 2) pe_int (fun _ _ => rfl)) (pv 4))) pa_nil)))))))), ?_⟩
  refine w_start (σ := [some _, some _, some _, none, none]) rfl ?_
  walk_at "go"
  refine ⟨b, 50, rfl, B, by decide, by decide +kernel, fun g0 H1 x0 x1 c1 B1 => ?_⟩
  walk_at "go"
  refine ⟨b, 50, rfl, B1, by decide, by decide +kernel, fun k0 H2 y0 y1 c2 B2 => ?_⟩
  walk_at "go"
  refine w_cut (M := fun σ' H' => Ch [b] H2 H' ∧ RB H' b ∧ ∃ k : Int, σ' = [some (.ref b), some (.ref a), some (.ref c), some (.int (1 + g0)), some (.int k)] ∧ 0 ≤ k ∧ k.natAbs < 2 ^ 20) ?_ ?_
  · walk_at "go"
    refine ⟨b, 3, rfl, B2, by decide, by decide +kernel, fun w0 H3 w1 w2 c3 B3 => ?_⟩
    walk_at "go"
    refine ite_d (fun h0 => ?_) (fun h0 => ?_)
    · walk_at "go"
      refine ⟨b, 1, rfl, B3, by decide, by decide, fun l0 H4 l1 l2 c4 B4 => ?_⟩
      walk_at "go"
      have e1 : (100000 : Int) ^ Int.toNat 1 = 100000 := by decide +kernel
      rw [e1] at l2
      exact ⟨c3.trans c4, B4, _, rfl, l1, by omega⟩
    · walk_at "go"
      exact ⟨c3, B3, _, rfl, y0, by omega⟩
  rintro σ' H3 ⟨c3, B3, k, rfl, kk, bk⟩
  have c13 := (c1.trans c2).trans c3
  have fa3 := c13.sqT fa
  have fc3 := c13.sqT fc
  have bg : (1 + g0).natAbs < 2 ^ 20 := by omega
  walk_at "go"
  refine w_I (mul_ok bn bg (by decide)) ?_
  walk_at "go"
  refine w_I (mul_ok bm bk (by decide)) ?_
  walk_at "go"
  refine w_I (mul_ok bd bg (by decide)) ?_
  walk_at "go"
  refine w_I (mul_ok be bk (by decide)) ?_
  walk_at "go"
  have p1 : 0 < d * (1 + g0) := Int.mul_pos d0 (by omega)
  have p2 : 0 ≤ e * k := Int.mul_nonneg (by omega) kk
  have b1 := add_bd (mul_bd bn bg) (mul_bd bm bk)
  have b2 := add_bd (mul_bd bd bg) (mul_bd be bk)
  refine ⟨_, _, rfl, by omega, abs_mono b2 (by decide), fun t x y H4 L c4 ft => ?_⟩
  exact q t x y (1 + g0) k H4 (by omega) kk L (abs_mono (Nat.lt_of_le_of_lt L.ln b1) (by decide)) (abs_mono (Nat.lt_of_le_of_lt L.ld b2) (by decide)) (c13.trans0 c4) (B3.mono c4) ft
end
end My

namespace My
open PySem PySem.Spec PyProof.Rows L2
/-- from a step toward the mediant back to the neighbour -/
theorem tw_lo {p q r s n d g k : Int} (nb : Nb p q r s) (hg : 1 ≤ g) (hk : 0 ≤ k) (L : Low (p * g + (p + r) * k) (q * g + (q + s) * k) n d) : p * d ≤ n * q ∧ n * (q + s) < (p + r) * d := by
  have q0 := nb.q0
  have s0 := nb.s0
  have dt := nb.dt
  have e := L.eq
  have d0 := L.pos
  have b0 : 0 < q * g + (q + s) * k := by
    have a1 := Int.mul_pos q0 (show 0 < g by omega)
    have a2 := Int.mul_nonneg (show 0 ≤ q + s by omega) hk
    omega
  -- t q - p b = k, (p + r) b - t (q + s) = g
  have f1 : (p * g + (p + r) * k) * q - p * (q * g + (q + s) * k) = k := by
    have x1 : (p * g + (p + r) * k) * q - p * (q * g + (q + s) * k) = k * (r * q - p * s) := by
      simp only [Int.add_mul, Int.mul_add, Int.mul_sub]
      have a1 : p * g * q = p * (q * g) := by rw [Int.mul_assoc, Int.mul_comm g q]
      have a2 : p * k * q = p * (q * k) := by rw [Int.mul_assoc, Int.mul_comm k q]
      have a3 : r * k * q = k * (r * q) := by rw [Int.mul_comm r k, Int.mul_assoc]
      have a4 : p * (s * k) = k * (p * s) := by rw [← Int.mul_assoc, Int.mul_comm]
      omega
    rw [x1, dt, Int.mul_one]
  have f2 : (p + r) * (q * g + (q + s) * k) - (p * g + (p + r) * k) * (q + s) = g := by
    have x1 : (p + r) * (q * g + (q + s) * k) - (p * g + (p + r) * k) * (q + s) = g * (r * q - p * s) := by
      simp only [Int.add_mul, Int.mul_add, Int.mul_sub]
      have a1 : p * g * q = p * (q * g) := by rw [Int.mul_assoc, Int.mul_comm g q]
      have a2 : p * k * q = p * (q * k) := by rw [Int.mul_assoc, Int.mul_comm k q]
      have a3 : r * k * q = r * (q * k) := by rw [Int.mul_assoc, Int.mul_comm k q]
      have a4 : p * k * s = p * (s * k) := by rw [Int.mul_assoc, Int.mul_comm k s]
      have a5 : r * k * s = r * (s * k) := by rw [Int.mul_assoc, Int.mul_comm k s]
      have a6 : r * (q * g) = g * (r * q) := by rw [← Int.mul_assoc, Int.mul_comm]
      have a7 : p * g * s = g * (p * s) := by rw [Int.mul_comm p g, Int.mul_assoc]
      omega
    rw [x1, dt, Int.mul_one]
  generalize p * g + (p + r) * k = t at f1 f2 e
  generalize q * g + (q + s) * k = b at f1 f2 e b0
  constructor
  · by_cases c : p * d ≤ n * q
    · exact c
    · exfalso
      have m := Int.mul_lt_mul_of_pos_right (show n * q < p * d by omega) b0
      have a1 : n * q * b = d * (t * q) := by rw [Int.mul_right_comm, e, Int.mul_assoc]
      have a2 : p * d * b = d * (p * b) := by rw [Int.mul_comm p d, Int.mul_assoc]
      have m2 := Int.mul_nonneg (show 0 ≤ d by omega) hk
      have a3 : d * k = d * (t * q) - d * (p * b) := by rw [← Int.mul_sub, f1]
      omega
  · refine lt_of_mul b0 ?_
    have a1 : n * (q + s) * b = d * (t * (q + s)) := by rw [Int.mul_right_comm, e, Int.mul_assoc]
    have a2 : (p + r) * d * b = d * ((p + r) * b) := by rw [Int.mul_comm (p + r) d, Int.mul_assoc]
    have m2 := Int.mul_pos d0 (show 0 < g by omega)
    have a3 : d * g = d * ((p + r) * b) - d * (t * (q + s)) := by rw [← Int.mul_sub, f2]
    omega
theorem tw_hi {p q r s n d g k : Int} (nb : Nb p q r s) (hg : 1 ≤ g) (hk : 0 ≤ k) (L : Low (r * g + (p + r) * k) (s * g + (q + s) * k) n d) : n * s ≤ r * d ∧ (p + r) * d < n * (q + s) := by
  have nb' : Nb (-r) s (-p) q := ⟨nb.s0, nb.q0, by
    have := nb.dt
    rw [Int.neg_mul, Int.neg_mul]
    have a1 : p * s = p * s := rfl
    omega⟩
  have L' : Low (-r * g + (-r + -p) * k) (s * g + (s + q) * k) (-n) d := by
    have e : -r * g + (-r + -p) * k = -(r * g + (p + r) * k) := by
      rw [show -r + -p = -(p + r) by omega, Int.neg_mul, Int.neg_mul]
      omega
    rw [e, show s + q = q + s by omega]
    refine ⟨L.pos, ?_, ?_, ?_, L.ld⟩
    · rw [Int.natAbs_neg]
      exact L.cop
    · rw [Int.neg_mul, Int.mul_neg, L.eq]
    · rw [Int.natAbs_neg, Int.natAbs_neg]
      exact L.ln
  obtain ⟨h1, h2⟩ := tw_lo nb' hg hk L'
  rw [Int.neg_mul, Int.neg_mul] at h1
  rw [Int.neg_mul, show -r + -p = -(p + r) by omega, Int.neg_mul, show s + q = q + s by omega] at h2
  omega
section
variable {P : Program} {w : World} {K : PySem.W.Frag} {mg : Str → Option Value} {base : Heap}
abbrev s__law_path_holds : Stmt := topS 45
theorem sc__law_path_holds : FnScope ["box", "path", "left", "right", "middle", "low", "high"] ["box"] (defScope s__law_path_holds) := ⟨rfl, rfl, rfl, by decide +kernel, rfl, by decide +kernel, by decide +kernel⟩
def sp__law_path_holds (K : PySem.W.Frag) : Sp := fun vs H Q _ => ∃ (b : Addr), vs = [.ref b] ∧ RB H b ∧ ∀ H', Ch [b] H H' → Q (.bl true) H'
theorem c__law_path_holds {A_InvalidStretch : Addr} (C_between : CalN P w K mg base 3 "between" (sp_between K A_InvalidStretch)) (C__law_same : Cal P w K mg base 2 "_law_same" (sp__law_same K)) (C__law_path : Cal P w K mg base 3 "_law_path" (sp__law_path K)) (C__law_toward : Cal P w K mg base 3 "_law_toward" (sp__law_toward K))
    {f : Addr} {fd : FuncData} (F : DefF K mg "_law_path_holds" s__law_path_holds ["box"] f fd) : Cal P w K mg base 4 "_law_path_holds" (sp__law_path_holds K) := by
  refine cal_of F sc__law_path_holds (fun vs H Q E h => by obtain ⟨_, rfl, _⟩ := h; rfl) (fun cdv A outer s H vs Q E hr h => ?_)
  obtain ⟨b, rfl, B, q⟩ := h
  refine ⟨_, (pss_cons (ps_set (i := 1) sc__law_path_holds.nd rfl (Or.inl rfl) (pe_cc C__law_path hr (by decide) (by rfl) (pa_cons (pv 0) pa_nil)))
 (pss_cons (ps_set (i := 2) sc__law_path_holds.nd rfl (Or.inl rfl) (pe_ix (k_ixT (K := K) rfl) (pv 1) pe_int (fun _ _ => rfl)))
 (pss_cons (ps_set (i := 3) sc__law_path_holds.nd rfl (Or.inl rfl) (pe_ix (k_ixT (K := K) rfl) (pv 1) pe_int (fun _ _ => rfl)))
 (pss_cons (ps_set (i := 4) sc__law_path_holds.nd rfl (Or.inl rfl) (pe_tup (pa_cons (pe_op op_add (pe_ix (k_ixT (K := K) rfl) (pv 2) pe_int (fun _ _ => rfl)) (pe_ix (k_ixT (K := K) rfl) (pv 3) pe_int (fun _ _ => rfl))) (pa_cons (pe_op op_add (pe_ix (k_ixT (K := K) rfl) (pv 2) pe_int (fun _ _ => rfl)) (pe_ix (k_ixT (K := K) rfl) (pv 3) pe_int (fun _ _ => rfl))) pa_nil))))
 (pss_cons (ps_if (pt_not (pt_val (pe_cc C__law_same hr (by decide) (by rfl) (pa_cons (pe_ccN C_between hr (by decide) (by rfl) (pa_cons (pv 2) (pa_cons (pv 3) pa_nil))) (pa_cons (pv 4) pa_nil))))) (pss_one (ps_ret pe_bl)) pss_nil)
 (pss_cons (ps_set (i := 5) sc__law_path_holds.nd rfl (Or.inl rfl) (pe_cc C__law_toward hr (by decide) (by rfl) (pa_cons (pv 0) (pa_cons (pv 2) (pa_cons (pv 4) pa_nil)))))
 (pss_cons (ps_set (i := 6) sc__law_path_holds.nd rfl (Or.inl rfl) (pe_cc C__law_toward hr (by decide) (by rfl) (pa_cons (pv 0) (pa_cons (pv 3) (pa_cons (pv 4) pa_nil)))))
 (pss_one (ps_ret (pe_cc C__law_same hr (by decide) (by rfl) (pa_cons (pe_ccN C_between hr (by decide) (by rfl) (pa_cons (pv 5) (pa_cons (pv 6) pa_nil))) (pa_cons (pv 4) pa_nil)))))))))))), ?_⟩
  refine w_start (σ := [some _, none, none, none, none, none, none]) rfl ?_
  have sm : ∀ {x : Int} {j : Nat}, x.natAbs < 2 ^ j → j ≤ 1000 → x.natAbs < 2 ^ 1000 := fun h hj => abs_mono h hj
  walk_at "go"
  refine ⟨b, rfl, B, fun o u v p qq r s' H1 nb bp bq br bs c1 B1 ho fu fv => ?_⟩
  have q0 := nb.q0
  have s0 := nb.s0
  have dt := nb.dt
  walk_at "go"
  refine w_newT (show 2 ≤ sizeLine by decide) fun t H2 n2 c2 h2 => ?_
  have bx := add_bd bp br
  have by' := add_bd bq bs
  have lt1 : p * s' < r * qq := by omega
  have ft : Fr K H2 t (p + r) (qq + s') := .of h2
  have abm : p * (qq + s') < (p + r) * qq := by rw [Int.mul_add, Int.add_mul]; omega
  have blm : (p + r) * s' < r * (qq + s') := by rw [Int.mul_add, Int.add_mul]; omega
  have fu2 := c2.sqT fu
  have fv2 := c2.sqT fv
  walk_at "go"
  refine ⟨.ref u, .ref v, some (p, qq), some (r, s'), 1000, rfl, ⟨u, rfl, fu2, q0, sm bp (by decide), sm bq (by decide)⟩, ⟨v, rfl, fv2, s0, sm br (by decide), sm bs (by decide)⟩, by decide, fun n d m e e1 e2 le => by cases e1; cases e2; omega, fun _ t3 X Y H3 S c3 ft3 => ?_⟩
  obtain ⟨rfl, rfl⟩ := mediant (lo := some (p, qq)) (hi := some (r, s')) q0 s0 dt (fun x y _ h => h) (fun x y _ h => h) abm blm S
  have ft' := c3.sqT ft
  walk_at "go"
  refine ⟨t3, t, [p + r, qq + s'], [p + r, qq + s'], rfl, ft3, ft', by simp, by simp, ?_⟩
  rw [decide_eq_true rfl]
  walk_at "go"
  rw [if_neg (by decide)]
  have c13 := c2.trans c3
  walk_at "go"
  refine ⟨b, u, t, p, qq, p + r, qq + s', rfl, B1.mono c13, c13.sqT fu, ft', q0, by omega, abs_mono bp (by decide), abs_mono bq (by decide), bx, by', fun t4 n d g k H4 g1 k0 L4 bn bd c4 B4 ft4 => ?_⟩
  walk_at "go"
  refine ⟨b, v, t, r, s', p + r, qq + s', rfl, B4, c4.sqT (c13.sqT fv), c4.sqT ft', s0, by omega, abs_mono br (by decide), abs_mono bs (by decide), bx, by', fun t5 m e g2 k2 H5 g3 k3 L5 bm be c5 B5 ft5 => ?_⟩
  obtain ⟨l1, l2⟩ := tw_lo nb g1 k0 L4
  obtain ⟨u1, u2⟩ := tw_hi nb g3 k3 L5
  have d0 := L4.pos
  have e0 := L5.pos
  have nem : n * e < m * d := by
    refine lt_of_mul (show 0 < qq + s' by omega) ?_
    have a1 := Int.mul_lt_mul_of_pos_right l2 e0
    have a2 := Int.mul_lt_mul_of_pos_right u2 d0
    have a3 : n * (qq + s') * e = n * e * (qq + s') := Int.mul_right_comm _ _ _
    have a4 : m * (qq + s') * d = m * d * (qq + s') := Int.mul_right_comm _ _ _
    have a5 : (p + r) * d * e = (p + r) * e * d := Int.mul_right_comm _ _ _
    omega
  walk_at "go"
  refine ⟨.ref t4, .ref t5, some (n, d), some (m, e), 1000, rfl, ⟨t4, rfl, c5.sqT ft4, d0, sm bn (by decide), sm bd (by decide)⟩, ⟨t5, rfl, ft5, e0, sm bm (by decide), sm be (by decide)⟩, by decide, fun n' d' m' e' e1 e2 le => by cases e1; cases e2; omega, fun _ t6 X Y H6 S6 c6 ft6 => ?_⟩
  obtain ⟨x1, x2⟩ := mediant (lo := some (n, d)) (hi := some (m, e)) q0 s0 dt (fun x y hy h => by
      have h' : n * y < x * d := h
      refine lt_of_mul d0 ?_
      have a1 := Int.mul_le_mul_of_nonneg_right l1 (show 0 ≤ y by omega)
      have a2 := Int.mul_lt_mul_of_pos_right h' q0
      have a3 : p * d * y = p * y * d := Int.mul_right_comm _ _ _
      have a4 : n * qq * y = n * y * qq := Int.mul_right_comm _ _ _
      have a5 : x * d * qq = x * qq * d := Int.mul_right_comm _ _ _
      omega) (fun x y hy h => by
      have h' : x * e < m * y := h
      refine lt_of_mul e0 ?_
      have a1 := Int.mul_le_mul_of_nonneg_right u1 (show 0 ≤ y by omega)
      have a2 := Int.mul_lt_mul_of_pos_right h' s0
      have a3 : r * e * y = r * y * e := Int.mul_right_comm _ _ _
      have a4 : m * s' * y = m * y * s' := Int.mul_right_comm _ _ _
      have a5 : x * e * s' = x * s' * e := Int.mul_right_comm _ _ _
      omega) l2 u2 S6
  walk_at "go"
  refine ⟨t6, t, [X, Y], [p + r, qq + s'], rfl, ft6, c6.sqT (c5.sqT (c4.sqT ft')), by simp, by simp, ?_⟩
  rw [decide_eq_true (by rw [x1, x2])]
  exact q _ ((((c1.trans0 c13).trans c4).trans c5).trans0 c6)
abbrev s_law : Stmt := topS 46
theorem sc_law : FnScope ["script", "box", "ends", "low", "high", "way"] ["script"] (defScope s_law) := ⟨rfl, rfl, rfl, by decide +kernel, rfl, by decide +kernel, by decide +kernel⟩
def sp_law (K : PySem.W.Frag) : Sp := fun vs H Q _ => ∃ (a : Addr) (ns : List Int), vs = [.ref a] ∧ SqL K H a (ivs ns) ∧ ns.length ≤ 63 ∧ ∀ H', Q (.bl true) H'
theorem Ch.cutL {L M : List Addr} {H H1 H2 : Hp} (c : Ch L H H1) (hn : ∀ l ∈ M, H l = none) (d : Ch M H1 H2) : Ch L H H2 := fun a o e => by
  have no : a ∉ M := fun m => by
    have := hn a m
    rw [e] at this
    cases this
  rcases c a o e with h | ⟨m, xs, ys, eo, h⟩
  · rcases d a o h with h2 | ⟨m2, _⟩
    · exact .inl h2
    · exact absurd m2 no
  · rcases d a _ h with h2 | ⟨m2, _⟩
    · exact .inr ⟨m, xs, ys, eo, h2⟩
    · exact absurd m2 no
theorem NB.stp {n d : Int} (h : NB n d) : Stp 0 (some (n, d)) := VB.mono h.vb (by omega) (Int.le_refl _)
theorem NB.end {K : PySem.W.Frag} {H : Hp} {a : Addr} {n d : Int} (h : NB n d) (f : Fr K H a n d) : End K H 1000 (.ref a) (some (n, d)) := ⟨a, rfl, f, h.pos, abs_mono h.bn (by decide), abs_mono h.bd (by decide)⟩
theorem c_law (C__law_box : Cal P w K mg base 2 "_law_box" (sp__law_box K)) (C__law_two_ends : Cal P w K mg base 6 "_law_two_ends" (sp__law_two_ends K)) (C__law_is_refused : Cal P w K mg base 4 "_law_is_refused" (sp__law_is_refused K)) (C__law_take : Cal P w K mg base 1 "_law_take" sp__law_take)
    (C__law_walk_holds : Cal P w K mg base 5 "_law_walk_holds" (sp__law_walk_holds K)) (C__law_whole_holds : Cal P w K mg base 5 "_law_whole_holds" (sp__law_whole_holds K)) (C__law_path_holds : Cal P w K mg base 4 "_law_path_holds" (sp__law_path_holds K))
    {f : Addr} {fd : FuncData} (F : DefF K mg "law" s_law ["script"] f fd) : FnOk P w K mg base (L2.CX P w) 7 f fd ["script"] (sp_law K) := by
  refine F.fn.okX sc_law (fun vs H Q E h => by obtain ⟨_, _, rfl, _⟩ := h; rfl) (fun cdv A outer s H vs Q E hr h => ?_)
  obtain ⟨a, ns, rfl, hs, hl, q⟩ := h
  refine ⟨_, (pss_cons (ps_set (i := 1) sc_law.nd rfl (Or.inl rfl) (pe_cc C__law_box hr (by decide) (by rfl) (pa_cons (pv 0) (pa_cons pe_int pa_nil))))
 (pss_cons (ps_set (i := 2) sc_law.nd rfl (Or.inl rfl) (pe_cc C__law_two_ends hr (by decide) (by rfl) (pa_cons (pv 1) pa_nil)))
 (pss_cons (ps_set (i := 3) sc_law.nd rfl (Or.inl rfl) (pe_ix (k_ixT (K := K) rfl) (pv 2) pe_int (fun _ _ => rfl)))
 (pss_cons (ps_set (i := 4) sc_law.nd rfl (Or.inl rfl) (pe_ix (k_ixT (K := K) rfl) (pv 2) pe_int (fun _ _ => rfl)))
 (pss_cons (ps_if (PW.pt (pw_or (pt_not (pt_val (pe_cc C__law_is_refused hr (by decide) (by rfl) (pa_cons (pv 3) (pa_cons (pv 3) pa_nil))))) (pw_or (pt_not (pt_val (pe_cc C__law_is_refused hr (by decide) (by rfl) (pa_cons (pv 4) (pa_cons (pv 4) pa_nil))))) (pw_or1 (pt_not (pt_val (pe_cc C__law_is_refused hr (by decide) (by rfl) (pa_cons (pv 4) (pa_cons (pv 3) pa_nil))))))))) (pss_one (ps_ret pe_bl)) pss_nil)
 (pss_cons (ps_set (i := 5) sc_law.nd rfl (Or.inl rfl) (pe_cc C__law_take hr (by decide) (by rfl) (pa_cons (pv 1) (pa_cons pe_int pa_nil))))
 (Evl.pss_cut (ps_if (PW.pt (pw_or (pt_cmpR op_lt (pv 5) pe_int (nomark _)) (pw_or1 (pt_cmpR op_eq (pv 5) pe_int (nomark _))))) (pss_one (ps_set (i := 3) sc_law.nd rfl (Or.inl rfl) pe_non)) pss_nil)
 (Evl.pss_cut (ps_if (pt_chain op_le op_lt pe_int (pv 5) pe_int) (pss_one (ps_set (i := 4) sc_law.nd rfl (Or.inl rfl) pe_non)) pss_nil)
 (pss_cons (ps_if (pt_not (pt_val (pe_cc C__law_walk_holds hr (by decide) (by rfl) (pa_cons (pv 1) (pa_cons (pe_cc C__law_box hr (by decide) (by rfl) (pa_cons (pv 0) (pa_cons pe_int pa_nil))) (pa_cons (pv 3) (pa_cons (pv 4) pa_nil))))))) (pss_one (ps_ret pe_bl)) pss_nil)
 (pss_one (ps_ret (pe_and (pe_cc C__law_whole_holds hr (by decide) (by rfl) (pa_cons (pe_cc C__law_box hr (by decide) (by rfl) (pa_cons (pv 0) (pa_cons pe_int pa_nil))) pa_nil)) (pe_one (pe_cc C__law_path_holds hr (by decide) (by rfl) (pa_cons (pe_cc C__law_box hr (by decide) (by rfl) (pa_cons (pv 0) (pa_cons pe_int pa_nil))) pa_nil))))))))))))))), ?_⟩
  refine w_start (σ := [some _, none, none, none, none, none]) rfl ?_
  walk_at "go"
  refine ⟨a, ns, 0, rfl, hs, by decide, by omega, fun b H1 nb c1 B1 => ?_⟩
  walk_at "go"
  refine ⟨b, rfl, B1, fun o u v n d m e H2 nb1 nb2 lt c2 B2 ho fu fv => ?_⟩
  have hb0 : ∀ l ∈ [b], H l = none := fun l ml => by rw [List.mem_singleton.mp ml]; exact nb
  have c02 := c1.cutL hb0 c2
  walk_at "go"
  refine ⟨u, u, n, d, n, d, 300, rfl, fu, fu, nb1.pos, nb1.pos, nb1.bn, nb1.bd, nb1.bn, nb1.bd, by decide, by omega, fun H3 c3 => ?_⟩
  walk_at "go"
  rw [if_neg (by decide)]
  walk_at "go"
  refine ⟨v, v, m, e, m, e, 300, rfl, c3.sqT fv, c3.sqT fv, nb2.pos, nb2.pos, nb2.bn, nb2.bd, nb2.bn, nb2.bd, by decide, by omega, fun H4 c4 => ?_⟩
  walk_at "go"
  rw [if_neg (by decide)]
  have c24 := c3.trans c4
  walk_at "go"
  refine ⟨v, u, m, e, n, d, 300, rfl, c24.sqT fv, c24.sqT fu, nb2.pos, nb1.pos, nb2.bn, nb2.bd, nb1.bn, nb1.bd, by decide, by omega, fun H5 c5 => ?_⟩
  walk_at "go"
  rw [if_neg (by decide)]
  have c25 := c24.trans c5
  walk_at "go"
  refine ⟨b, 12, rfl, B2.mono c25, by decide, by decide +kernel, fun way H6 w0 w1 c6 B6 => ?_⟩
  have fu6 := c6.sqT (c25.sqT fu)
  have fv6 := c6.sqT (c25.sqT fv)
  have c06 := (c02.trans c25).cutL hb0 c6
  have ho6 := c6.sqT (c25.sqT ho)
  walk_at "go"
  refine w_cut (M := fun σ' H' => H' = H6 ∧ ∃ (l : V) (lo : Option (Int × Int)), σ' = [some (.ref a), some (.ref b), some (.ref o), some l, some (.ref v), some (.int way)] ∧ End K H6 1000 l lo ∧ Stp 0 lo ∧ (lo = none ∨ lo = some (n, d))) ?_ ?_
  · have yes : ∃ (l : V) (lo : Option (Int × Int)), [some (V.ref a), some (.ref b), some (.ref o), some .non, some (.ref v), some (.int way)] = [some (.ref a), some (.ref b), some (.ref o), some l, some (.ref v), some (.int way)] ∧ End K H6 1000 l lo ∧ Stp 0 lo ∧ (lo = none ∨ lo = some (n, d)) := ⟨.non, none, rfl, rfl, trivial, .inl rfl⟩
    walk_at "go"
    refine ite_d (fun h0 => ?_) (fun h0 => ?_)
    · refine ite_t ?_
      walk_at "go"
      exact ⟨rfl, yes⟩
    · walk_at "go"
      refine ite_d (fun h1 => ?_) (fun h1 => ?_)
      · walk_at "go"
        exact ⟨rfl, yes⟩
      · walk_at "go"
        exact ⟨rfl, _, _, rfl, nb1.end fu6, nb1.stp, .inr rfl⟩
  rintro σ' H' ⟨rfl, l, lo, rfl, el, sl, elo⟩
  walk_at "go"
  refine w_cut (M := fun σ' Hx => Hx = H' ∧ ∃ (h : V) (hi : Option (Int × Int)), σ' = [some (.ref a), some (.ref b), some (.ref o), some l, some h, some (.int way)] ∧ End K H' 1000 h hi ∧ Stp 0 hi ∧ (hi = none ∨ hi = some (m, e))) ?_ ?_
  · have yes : ∃ (h : V) (hi : Option (Int × Int)), [some (V.ref a), some (.ref b), some (.ref o), some l, some .non, some (.int way)] = [some (.ref a), some (.ref b), some (.ref o), some l, some h, some (.int way)] ∧ End K H' 1000 h hi ∧ Stp 0 hi ∧ (hi = none ∨ hi = some (m, e)) := ⟨.non, none, rfl, rfl, trivial, .inl rfl⟩
    have nope : ∃ (h : V) (hi : Option (Int × Int)), [some (V.ref a), some (.ref b), some (.ref o), some l, some (.ref v), some (.int way)] = [some (.ref a), some (.ref b), some (.ref o), some l, some h, some (.int way)] ∧ End K H' 1000 h hi ∧ Stp 0 hi ∧ (hi = none ∨ hi = some (m, e)) := ⟨_, _, rfl, nb2.end fv6, nb2.stp, .inr rfl⟩
    walk_at "go"
    refine w_chain ?_
    walk_at "go"
    refine ite_d (fun h0 => ?_) (fun h0 => ?_)
    · walk_at "go"
      refine ite_d (fun h1 => ?_) (fun h1 => ?_)
      · walk_at "go"
        exact ⟨rfl, yes⟩
      · walk_at "go"
        exact ⟨rfl, nope⟩
    · walk_at "go"
      rw [if_neg (by decide)]
      walk_at "go"
      exact ⟨rfl, nope⟩
  rintro σ' Hx ⟨rfl, h, hi, rfl, eh, sh, ehi⟩
  have nem : Nem lo hi := fun n' d' m' e' e1 e2 => by
    rcases elo with z | z
    · rw [z] at e1
      cases e1
    · rcases ehi with z2 | z2
      · rw [z2] at e2
        cases e2
      · rw [z] at e1
        rw [z2] at e2
        cases e1
        cases e2
        exact lt
  walk_at "go"
  refine ⟨a, ns, 1, rfl, c06.sq0 hs, by decide, by omega, fun t H7 nt c7 B7 => ?_⟩
  have nt0 := c06.free nt
  walk_at "go"
  refine ⟨b, t, l, h, lo, hi, rfl, B6.ne nt, B6.mono c7, B7, el.ch c7, eh.ch c7, sl, sh, nem, fun H8 c8 B8 => ?_⟩
  have c08 := (c06.trans c7).cutL (fun x mx => by
    rcases List.mem_cons.mp mx with z | z
    · rw [z]; exact nb
    · rw [List.mem_singleton.mp z]; exact nt0) c8
  walk_at "go"
  rw [if_neg (by decide)]
  walk_at "go"
  refine ⟨a, ns, 2, rfl, c08.sq0 hs, by decide, by omega, fun t2 H9 nt2 c9 B9 => ?_⟩
  have nt20 := c08.free nt2
  walk_at "go"
  refine ⟨t2, rfl, B9, fun H10 c10 => ?_⟩
  have c010 := (c08.trans c9).cutL (fun x mx => by rw [List.mem_singleton.mp mx]; exact nt20) c10
  walk_at "go"
  rw [if_pos rfl]
  walk_at "go"
  refine ⟨a, ns, 3, rfl, c010.sq0 hs, by decide, by omega, fun t3 H11 nt3 c11 B11 => ?_⟩
  walk_at "go"
  exact ⟨t3, rfl, B11, fun H12 c12 => q _⟩
end
end My

namespace My
open PySem PySem.Spec PyProof.Rows L2
section
variable {K : PySem.W.Frag} {h : Heap} {mg : Str → Option Value}
theorem ends_mk {nm q : Str} {N : Addr} {bs bm : List Value} {sn : List Str} {sub : List Value} {ab : Bool} {col : Option Bool} {dd : Option Addr} {m0 m1 m2 m3 m5 : Option Value} {A_InvalidStretch A_InvalidText A_DivisionByZero A_CellspireError A_ZERO fI : Addr}
    {oc kV doc pm cdv ct : Value} {od an zd : Option Addr} {osl zsl : Array (Option Value)} {its : Array Value} {zn : Nat} (X : K.In h) (G : h.Ns mainGlobals mg)
    (a1 : PySem.W.nsIn K mainGlobals "InvalidStretch" = some (some (.ref A_InvalidStretch))) (a2 : PySem.W.nsIn K mainGlobals "InvalidText" = some (some (.ref A_InvalidText))) (a3 : PySem.W.nsIn K mainGlobals "DivisionByZero" = some (some (.ref A_DivisionByZero))) (a4 : PySem.W.nsIn K mainGlobals "CellspireError" = some (some (.ref A_CellspireError)))
    (a5 : PySem.W.nsIn K mainGlobals "ZERO" = some (some (.ref A_ZERO))) (lz : K.lookup A_ZERO = some ⟨.type "tuple", zd, .seq its zn, zsl⟩) (sz : its.size ≤ sizeLine) (vz : Vals (ivs [0, 1]) its.toList)
    (xL : K.lookup A_InvalidStretch = some (excClassObj nm q A_InvalidStretch N bs bm true sn sub ab col dd m0 m1 m2 m3 m5 "ValueError.__new__")) (rv : PySem.HandSPX.refsVE bm = true) (sa : PySem.W.findIn K (.ref A_InvalidStretch) "__setattr__" = some (some (.builtin "object.__setattr__")))
    (eC : PySem.W.subIn K (.ref A_InvalidStretch) (.type "BaseException") = some true) (tC : PySem.W.typeIn K (.ref A_InvalidStretch) = some (.type "type")) (kC : PySem.W.keepIn K (.ref A_InvalidStretch) = true)
    (n1 : PySem.W.findIn K (.ref A_InvalidStretch) "low" = some none) (n2 : PySem.W.findIn K (.ref A_InvalidStretch) "high" = some none) (iC : PySem.W.findIn K (.ref A_InvalidStretch) "__init__" = some (some (.ref fI))) (tI : PySem.W.typeIn K (.ref fI) = some (.type "function"))
    (l1 : K.lookup fI = some ⟨oc, od, .func (PySem.W.fnOf "__init__" "InvalidStretch.__init__" (defArgs si_InvalidStretch) (defBody si_InvalidStretch) (defScope si_InvalidStretch) .none kV doc pm an cdv ct), osl⟩) (c1 : PySem.W.codeIn K cdv "InvalidStretch.__init__" = true) (k1 : PySem.W.keepIn K (.ref fI) = true)
    (hg : PySem.W.findIn K (.ref A_InvalidStretch) "__getattribute__" = some (some (.builtin "BaseException.__getattribute__"))) (hk : PySem.W.findIn K (.ref A_InvalidStretch) "__getattr__" = some none) (hd : PySem.W.hasDictIn K A_InvalidStretch = true)
    (ha : PySem.W.findIn K (.ref A_InvalidStretch) "__class__" = some (some (.builtin "object.__class__"))) (hn : PySem.W.specialIn K (.builtin "object.__class__") "__get__" = some (some (.builtin "getset_descriptor.__get__"))) (ht : PySem.W.takesIn K (.builtin "object.__class__") = some true) (hm : PySem.W.mroIn K A_InvalidStretch (.type "object") = some true)
    (s1 : PySem.W.subIn K (.ref A_InvalidStretch) (.ref A_InvalidStretch) = some true) (e2 : PySem.W.kitOne K (.ref A_InvalidStretch) (.ref A_InvalidText) = some false) (e3 : PySem.W.kitOne K (.ref A_InvalidStretch) (.ref A_DivisionByZero) = some false)
    (e4 : PySem.W.kitOne K (.ref A_InvalidStretch) (.ref A_CellspireError) = some true) (e5 : PySem.W.kitOne K (.ref A_InvalidStretch) (.type "ValueError") = some true) :
    ∃ (A_InvalidStretch A_InvalidText A_DivisionByZero A_CellspireError A_ZERO fI : Addr) (fdI : FuncData), mg "InvalidStretch" = some (.ref A_InvalidStretch) ∧ mg "InvalidText" = some (.ref A_InvalidText) ∧ mg "DivisionByZero" = some (.ref A_DivisionByZero) ∧ mg "CellspireError" = some (.ref A_CellspireError) ∧ mg "ZERO" = some (.ref A_ZERO) ∧
      (∀ H, Fr K H A_ZERO 0 1) ∧ OexC K A_InvalidStretch ∧ PySem.W.findIn K (.ref A_InvalidStretch) "low" = some none ∧ PySem.W.findIn K (.ref A_InvalidStretch) "high" = some none ∧ PySem.W.findIn K (.ref A_InvalidStretch) "__init__" = some (some (.ref fI)) ∧ PySem.W.typeIn K (.ref fI) = some (.type "function") ∧
      Fun K "__init__" "InvalidStretch.__init__" si_InvalidStretch fI fdI ∧ Binds K fdI ["self", "low", "high"] [] ∧ ExcC K A_InvalidStretch ∧ PySem.W.exmOne K (.ref A_InvalidStretch) (.ref A_InvalidStretch) = some true ∧ PySem.W.kitOne K (.ref A_InvalidStretch) (.ref A_InvalidText) = some false ∧
      PySem.W.kitOne K (.ref A_InvalidStretch) (.ref A_DivisionByZero) = some false ∧ PySem.W.kitOne K (.ref A_InvalidStretch) (.ref A_CellspireError) = some true ∧ PySem.W.kitOne K (.ref A_InvalidStretch) (.type "ValueError") = some true := by
  have F := fun_mk (st := si_InvalidStretch) l1 c1 k1
  refine ⟨A_InvalidStretch, A_InvalidText, A_DivisionByZero, A_CellspireError, A_ZERO, fI, _, PySem.W.mg_of X G a1, PySem.W.mg_of X G a2, PySem.W.mg_of X G a3, PySem.W.mg_of X G a4, PySem.W.mg_of X G a5, fun H => .inr ⟨_, its, zn, lz, rfl, rfl, sz, vz⟩,
    ⟨⟨nm, q, N, bs, bm, sn, sub, ab, col, dd, m0, m1, m2, m3, m5, xL, rv⟩, sa, eC, tC, kC⟩, n1, n2, iC, tI, F, F.binds fun _ _ _ _ _ _ us hl => match us, hl with | [_, _, _], _ => rfl, ⟨hg, hk, eC, hd, ha, hn, ht, hm⟩, PySem.W.exm_ref eC hd tC s1, e2, e3, e4, e5⟩
end

section
variable {P : Program} {w : World} {K : PySem.W.Frag} {mg : Str → Option Value} {base : Heap}
theorem all_law {A_InvalidStretch A_InvalidText A_DivisionByZero A_CellspireError A_ZERO fI : Addr} {fdI : FuncData} (T : Txt mg) (z_ValueError : mg "ValueError" = none) (G_InvalidStretch : mg "InvalidStretch" = some (.ref A_InvalidStretch)) (G_InvalidText : mg "InvalidText" = some (.ref A_InvalidText)) (G_DivisionByZero : mg "DivisionByZero" = some (.ref A_DivisionByZero)) (G_CellspireError : mg "CellspireError" = some (.ref A_CellspireError)) (G_ZERO : mg "ZERO" = some (.ref A_ZERO)) (zz : ∀ H, Fr K H A_ZERO 0 1) (OT : OexC K A_InvalidStretch) (NA_InvalidStretch_low : PySem.W.findIn K (.ref A_InvalidStretch) "low" = some none) (NA_InvalidStretch_high : PySem.W.findIn K (.ref A_InvalidStretch) "high" = some none) (iC : PySem.W.findIn K (.ref A_InvalidStretch) "__init__" = some (some (.ref fI))) (tI : PySem.W.typeIn K (.ref fI) = some (.type "function")) (FI : Fun K "__init__" "InvalidStretch.__init__" si_InvalidStretch fI fdI) (BI : Binds K fdI ["self", "low", "high"] []) (XC_InvalidStretch : ExcC K A_InvalidStretch) (e1 : PySem.W.exmOne K (.ref A_InvalidStretch) (.ref A_InvalidStretch) = some true) (e2 : PySem.W.kitOne K (.ref A_InvalidStretch) (.ref A_InvalidText) = some false) (e3 : PySem.W.kitOne K (.ref A_InvalidStretch) (.ref A_DivisionByZero) = some false) (e4 : PySem.W.kitOne K (.ref A_InvalidStretch) (.ref A_CellspireError) = some true) (e5 : PySem.W.kitOne K (.ref A_InvalidStretch) (.type "ValueError") = some true) {f_sign_of : Addr} {fd_sign_of : FuncData} (D_sign_of : DefF K mg "sign_of" s_sign_of ["n"] f_sign_of fd_sign_of) {f_compare : Addr} {fd_compare : FuncData} (D_compare : DefF K mg "compare" s_compare ["a", "b"] f_compare fd_compare) {f_floor : Addr} {fd_floor : FuncData} (D_floor : DefF K mg "floor" s_floor ["a"] f_floor fd_floor) {f__law_is_integer : Addr} {fd__law_is_integer : FuncData} (D__law_is_integer : DefF K mg "_law_is_integer" s__law_is_integer ["told"] f__law_is_integer fd__law_is_integer) {f__law_same : Addr} {fd__law_same : FuncData} (D__law_same : DefF K mg "_law_same" s__law_same ["told", "due"] f__law_same fd__law_same) {f__law_cell : Addr} {fd__law_cell : FuncData} (D__law_cell : DefF K mg "_law_cell" s__law_cell ["script", "k"] f__law_cell fd__law_cell) {f__law_box : Addr} {fd__law_box : FuncData} (D__law_box : DefF K mg "_law_box" s__law_box ["script", "k"] f__law_box fd__law_box) {f__law_take : Addr} {fd__law_take : FuncData} (D__law_take : DefF K mg "_law_take" s__law_take ["box", "many"] f__law_take fd__law_take) {f__law_turned : Addr} {fd__law_turned : FuncData} (D__law_turned : DefF K mg "_law_turned" s__law_turned ["box", "number"] f__law_turned fd__law_turned) {f__law_power : Addr} {fd__law_power : FuncData} (D__law_power : DefF K mg "_law_power" s__law_power ["root", "count"] f__law_power fd__law_power) {f__law_limbs : Addr} {fd__law_limbs : FuncData} (D__law_limbs : DefF K mg "_law_limbs" s__law_limbs ["box", "count"] f__law_limbs fd__law_limbs) {f__law_gcd : Addr} {fd__law_gcd : FuncData} (D__law_gcd : DefF K mg "_law_gcd" s__law_gcd ["one", "two"] f__law_gcd fd__law_gcd) {f__law_lowest : Addr} {fd__law_lowest : FuncData} (D__law_lowest : DefF K mg "_law_lowest" s__law_lowest ["top", "bottom"] f__law_lowest fd__law_lowest) {f__law_long : Addr} {fd__law_long : FuncData} (D__law_long : DefF K mg "_law_long" s__law_long ["box"] f__law_long fd__law_long) {f__law_number : Addr} {fd__law_number : FuncData} (D__law_number : DefF K mg "_law_number" s__law_number ["box"] f__law_number fd__law_number) {f__law_less : Addr} {fd__law_less : FuncData} (D__law_less : DefF K mg "_law_less" s__law_less ["a", "b"] f__law_less fd__law_less) {f__law_inside : Addr} {fd__law_inside : FuncData} (D__law_inside : DefF K mg "_law_inside" s__law_inside ["top", "bottom", "low", "high"] f__law_inside fd__law_inside) {f__inside : Addr} {fd__inside : FuncData} (D__inside : DefF K mg "_inside" s__inside ["low", "high"] f__inside fd__inside) {f_between : Addr} {fd_between : FuncData} (D_between : DefF K mg "between" s_between ["low", "high"] f_between fd_between) {f__law_is_refused : Addr} {fd__law_is_refused : FuncData} (D__law_is_refused : DefF K mg "_law_is_refused" s__law_is_refused ["low", "high"] f__law_is_refused fd__law_is_refused) {f__law_inverse : Addr} {fd__law_inverse : FuncData} (D__law_inverse : DefF K mg "_law_inverse" s__law_inverse ["top", "bottom"] f__law_inverse fd__law_inverse) {f__law_is_fraction : Addr} {fd__law_is_fraction : FuncData} (D__law_is_fraction : DefF K mg "_law_is_fraction" s__law_is_fraction ["told"] f__law_is_fraction fd__law_is_fraction) {f__law_whole_is_simplest : Addr} {fd__law_whole_is_simplest : FuncData} (D__law_whole_is_simplest : DefF K mg "_law_whole_is_simplest" s__law_whole_is_simplest ["top", "low", "high"] f__law_whole_is_simplest fd__law_whole_is_simplest) {f__law_parents_are_outside : Addr} {fd__law_parents_are_outside : FuncData} (D__law_parents_are_outside : DefF K mg "_law_parents_are_outside" s__law_parents_are_outside ["top", "bottom", "low", "high"] f__law_parents_are_outside fd__law_parents_are_outside) {f__law_none_over : Addr} {fd__law_none_over : FuncData} (D__law_none_over : DefF K mg "_law_none_over" s__law_none_over ["bottom", "low", "high"] f__law_none_over fd__law_none_over) {f__law_lesser_are_outside : Addr} {fd__law_lesser_are_outside : FuncData} (D__law_lesser_are_outside : DefF K mg "_law_lesser_are_outside" s__law_lesser_are_outside ["tries", "told", "low", "high"] f__law_lesser_are_outside fd__law_lesser_are_outside) {f__law_is_simplest : Addr} {fd__law_is_simplest : FuncData} (D__law_is_simplest : DefF K mg "_law_is_simplest" s__law_is_simplest ["tries", "told", "low", "high"] f__law_is_simplest fd__law_is_simplest) {f__law_neighbour : Addr} {fd__law_neighbour : FuncData} (D__law_neighbour : DefF K mg "_law_neighbour" s__law_neighbour ["box", "a"] f__law_neighbour fd__law_neighbour) {f__law_near : Addr} {fd__law_near : FuncData} (D__law_near : DefF K mg "_law_near" s__law_near ["box", "a"] f__law_near fd__law_near) {f__law_two_ends : Addr} {fd__law_two_ends : FuncData} (D__law_two_ends : DefF K mg "_law_two_ends" s__law_two_ends ["box"] f__law_two_ends fd__law_two_ends) {f__law_walk_holds : Addr} {fd__law_walk_holds : FuncData} (D__law_walk_holds : DefF K mg "_law_walk_holds" s__law_walk_holds ["box", "tries", "low", "high"] f__law_walk_holds fd__law_walk_holds) {f__law_size : Addr} {fd__law_size : FuncData} (D__law_size : DefF K mg "_law_size" s__law_size ["box", "count"] f__law_size fd__law_size) {f__law_whole_ends : Addr} {fd__law_whole_ends : FuncData} (D__law_whole_ends : DefF K mg "_law_whole_ends" s__law_whole_ends ["box"] f__law_whole_ends fd__law_whole_ends) {f__law_mirrored : Addr} {fd__law_mirrored : FuncData} (D__law_mirrored : DefF K mg "_law_mirrored" s__law_mirrored ["end"] f__law_mirrored fd__law_mirrored) {f__law_whole_holds : Addr} {fd__law_whole_holds : FuncData} (D__law_whole_holds : DefF K mg "_law_whole_holds" s__law_whole_holds ["box"] f__law_whole_holds fd__law_whole_holds) {f__law_path : Addr} {fd__law_path : FuncData} (D__law_path : DefF K mg "_law_path" s__law_path ["box"] f__law_path fd__law_path) {f__law_toward : Addr} {fd__law_toward : FuncData} (D__law_toward : DefF K mg "_law_toward" s__law_toward ["box", "end", "middle"] f__law_toward fd__law_toward) {f__law_path_holds : Addr} {fd__law_path_holds : FuncData} (D__law_path_holds : DefF K mg "_law_path_holds" s__law_path_holds ["box"] f__law_path_holds fd__law_path_holds) {f_law : Addr} {fd_law : FuncData} (D_law : DefF K mg "law" s_law ["script"] f_law fd_law) : FnOk P w K mg base (L2.CX P w) 7 f_law fd_law ["script"] (sp_law K) := by
  have O_InvalidStretch : OexD P w K mg base 1 "InvalidStretch" A_InvalidStretch (sp_init2 K A_InvalidStretch "low" "high") := ⟨OT, G_InvalidStretch, fI, fdI, _, iC, tI, ci_InvalidStretch OT NA_InvalidStretch_low NA_InvalidStretch_high FI, BI⟩
  have C_sign_of := c_sign_of (P := P) (w := w) (base := base) (F := D_sign_of)
  have C_compare := c_compare (P := P) (w := w) (base := base) (C_sign_of := C_sign_of) (F := D_compare)
  have C_floor := c_floor (P := P) (w := w) (base := base) (F := D_floor)
  have C__law_is_integer := c__law_is_integer (P := P) (w := w) (base := base) (T := T) (F := D__law_is_integer)
  have H__law_is_integer := h__law_is_integer (P := P) (w := w) (base := base) (T := T) (F := D__law_is_integer)
  have C__law_same := c__law_same (P := P) (w := w) (base := base) (T := T) (C__law_is_integer := C__law_is_integer) (F := D__law_same)
  have H__law_same := h__law_same (P := P) (w := w) (base := base) (T := T) (H__law_is_integer := H__law_is_integer) (F := D__law_same)
  have C__law_cell := c__law_cell (P := P) (w := w) (base := base) (T := T) (F := D__law_cell)
  have C__law_box := c__law_box (P := P) (w := w) (base := base) (T := T) (C__law_cell := C__law_cell) (F := D__law_box)
  have C__law_take := c__law_take (P := P) (w := w) (base := base) (T := T) (F := D__law_take)
  have C__law_turned := c__law_turned (P := P) (w := w) (base := base) (C__law_take := C__law_take) (F := D__law_turned)
  have C__law_power := c__law_power (P := P) (w := w) (base := base) (T := T) (F := D__law_power)
  have C__law_limbs := c__law_limbs (P := P) (w := w) (base := base) (T := T) (C__law_take := C__law_take) (F := D__law_limbs)
  have C__law_gcd := c__law_gcd (P := P) (w := w) (base := base) (T := T) (F := D__law_gcd)
  have C__law_lowest := c__law_lowest (P := P) (w := w) (base := base) (C__law_gcd := C__law_gcd) (F := D__law_lowest)
  have C__law_long := c__law_long (P := P) (w := w) (base := base) (C__law_take := C__law_take) (C__law_turned := C__law_turned) (C__law_power := C__law_power) (C__law_limbs := C__law_limbs) (F := D__law_long)
  have C__law_number := c__law_number (P := P) (w := w) (base := base) (T := T) (C__law_take := C__law_take) (C__law_turned := C__law_turned) (C__law_power := C__law_power) (C__law_limbs := C__law_limbs) (C__law_long := C__law_long) (C__law_lowest := C__law_lowest) (F := D__law_number)
  have C__law_less := c__law_less (P := P) (w := w) (base := base) (F := D__law_less)
  have C__law_inside := c__law_inside (P := P) (w := w) (base := base) (F := D__law_inside)
  have C__inside := c__inside (P := P) (w := w) (base := base) (F := D__inside)
  have C_between := c_between (P := P) (w := w) (base := base) (zz := zz) (G_ZERO := G_ZERO) (O_InvalidStretch := O_InvalidStretch) (C_compare := C_compare) (C_floor := C_floor) (C__inside := C__inside) (F := D_between)
  have C__law_is_refused := c__law_is_refused (P := P) (w := w) (base := base) (T := T) (z_ValueError := z_ValueError) (G_InvalidStretch := G_InvalidStretch) (G_InvalidText := G_InvalidText) (G_DivisionByZero := G_DivisionByZero) (G_CellspireError := G_CellspireError) (XC_InvalidStretch := XC_InvalidStretch) (NA_InvalidStretch_low := NA_InvalidStretch_low) (NA_InvalidStretch_high := NA_InvalidStretch_high) (e1 := e1) (e2 := e2) (e3 := e3) (e4 := e4) (e5 := e5) (C_between := C_between) (H__law_same := H__law_same) (F := D__law_is_refused)
  have C__law_inverse := c__law_inverse (P := P) (w := w) (base := base) (T := T) (F := D__law_inverse)
  have C__law_is_fraction := c__law_is_fraction (P := P) (w := w) (base := base) (T := T) (C__law_is_integer := C__law_is_integer) (C__law_gcd := C__law_gcd) (F := D__law_is_fraction)
  have C__law_whole_is_simplest := c__law_whole_is_simplest (P := P) (w := w) (base := base) (C__law_inside := C__law_inside) (F := D__law_whole_is_simplest)
  have C__law_parents_are_outside := c__law_parents_are_outside (P := P) (w := w) (base := base) (C__law_inside := C__law_inside) (C__law_inverse := C__law_inverse) (F := D__law_parents_are_outside)
  have C__law_none_over := c__law_none_over (P := P) (w := w) (base := base) (F := D__law_none_over)
  have C__law_lesser_are_outside := c__law_lesser_are_outside (P := P) (w := w) (base := base) (T := T) (C__law_inside := C__law_inside) (C__law_limbs := C__law_limbs) (C__law_none_over := C__law_none_over) (F := D__law_lesser_are_outside)
  have C__law_is_simplest := c__law_is_simplest (P := P) (w := w) (base := base) (C__law_inside := C__law_inside) (C__law_is_fraction := C__law_is_fraction) (C__law_whole_is_simplest := C__law_whole_is_simplest) (C__law_parents_are_outside := C__law_parents_are_outside) (C__law_lesser_are_outside := C__law_lesser_are_outside) (F := D__law_is_simplest)
  have C__law_neighbour := c__law_neighbour (P := P) (w := w) (base := base) (C__law_take := C__law_take) (C__law_inverse := C__law_inverse) (C__law_limbs := C__law_limbs) (F := D__law_neighbour)
  have C__law_near := c__law_near (P := P) (w := w) (base := base) (T := T) (C__law_take := C__law_take) (C__law_turned := C__law_turned) (C__law_limbs := C__law_limbs) (C__law_neighbour := C__law_neighbour) (C__law_lowest := C__law_lowest) (C__law_number := C__law_number) (F := D__law_near)
  have C__law_two_ends := c__law_two_ends (P := P) (w := w) (base := base) (T := T) (C__law_number := C__law_number) (C__law_near := C__law_near) (C__law_less := C__law_less) (F := D__law_two_ends)
  have C__law_walk_holds := c__law_walk_holds (P := P) (w := w) (base := base) (T := T) (C_between := C_between) (C__law_take := C__law_take) (C__law_is_simplest := C__law_is_simplest) (C__law_is_refused := C__law_is_refused) (F := D__law_walk_holds)
  have C__law_size := c__law_size (P := P) (w := w) (base := base) (C__law_take := C__law_take) (C__law_limbs := C__law_limbs) (F := D__law_size)
  have C__law_whole_ends := c__law_whole_ends (P := P) (w := w) (base := base) (C__law_take := C__law_take) (C__law_size := C__law_size) (C__law_limbs := C__law_limbs) (C__law_lowest := C__law_lowest) (F := D__law_whole_ends)
  have C__law_mirrored := c__law_mirrored (P := P) (w := w) (base := base) (F := D__law_mirrored)
  have C__law_whole_holds := c__law_whole_holds (P := P) (w := w) (base := base) (C_between := C_between) (C__law_same := C__law_same) (C__law_whole_ends := C__law_whole_ends) (C__law_mirrored := C__law_mirrored) (F := D__law_whole_holds)
  have C__law_path := c__law_path (P := P) (w := w) (base := base) (T := T) (C__law_take := C__law_take) (C__law_limbs := C__law_limbs) (F := D__law_path)
  have C__law_toward := c__law_toward (P := P) (w := w) (base := base) (C__law_take := C__law_take) (C__law_limbs := C__law_limbs) (C__law_lowest := C__law_lowest) (F := D__law_toward)
  have C__law_path_holds := c__law_path_holds (P := P) (w := w) (base := base) (C_between := C_between) (C__law_same := C__law_same) (C__law_path := C__law_path) (C__law_toward := C__law_toward) (F := D__law_path_holds)
  have C_law := c_law (P := P) (w := w) (base := base) (C__law_box := C__law_box) (C__law_two_ends := C__law_two_ends) (C__law_is_refused := C__law_is_refused) (C__law_take := C__law_take) (C__law_walk_holds := C__law_walk_holds) (C__law_whole_holds := C__law_whole_holds) (C__law_path_holds := C__law_path_holds) (F := D_law)
  exact C_law
end
end My

open PySem PySem.W PyProof.Rows in
set_option maxRecDepth 100000 in
set_option maxHeartbeats 0 in
theorem PySem.Challenge.cw_cellspire_k01_simplest_fraction_holds : PySem.Challenge.rw_cellspire_k01_simplest_fraction.Holds := by
  w_on; o_law; k_head; (case hw => w_witness2)
  k_fill
  refine L2.walk_of (l := PySem.Challenge.rw_cellspire_k01_simplest_fraction) (n := 63) (k := 7) (x := "script") (CX := fun w => L2.CX PySem.Challenge.rw_cellspire_k01_simplest_fraction.prog w) (sp := fun w => My.sp_law _) rfl (by decide) rfl ⟨rfl, by decide, by decide⟩ (fun w h Y => PySem.W.kIn_of Y) ?F (fun _ _ a ns hl _ hS => ⟨a, ns, rfl, hS, hl, fun _ => rfl⟩) (fun _ _ _ _ _ h => My.cx_no h)
  case F =>
    intro w mg fa h KX G hmg
    obtain ⟨f_sign_of, fd_sign_of, D_sign_of, _⟩ : ∃ f fd, My.DefF _ mg "sign_of" My.s_sign_of ["n"] f fd ∧ True := by
      refine' ⟨_, _, My.def_mk (x := "sign_of") (st := My.s_sign_of) (ps := ["n"]) KX G ?a ?l ?c ?k (fun _ _ _ _ _ _ us hl => match us, hl with | [_], _ => rfl), trivial⟩
      (case a => k_is); (case l => k_is); (case c => k_is); (case k => k_is)
    obtain ⟨f_compare, fd_compare, D_compare, _⟩ : ∃ f fd, My.DefF _ mg "compare" My.s_compare ["a", "b"] f fd ∧ True := by
      refine' ⟨_, _, My.def_mk (x := "compare") (st := My.s_compare) (ps := ["a", "b"]) KX G ?a ?l ?c ?k (fun _ _ _ _ _ _ us hl => match us, hl with | [_, _], _ => rfl), trivial⟩
      (case a => k_is); (case l => k_is); (case c => k_is); (case k => k_is)
    obtain ⟨f_floor, fd_floor, D_floor, _⟩ : ∃ f fd, My.DefF _ mg "floor" My.s_floor ["a"] f fd ∧ True := by
      refine' ⟨_, _, My.def_mk (x := "floor") (st := My.s_floor) (ps := ["a"]) KX G ?a ?l ?c ?k (fun _ _ _ _ _ _ us hl => match us, hl with | [_], _ => rfl), trivial⟩
      (case a => k_is); (case l => k_is); (case c => k_is); (case k => k_is)
    obtain ⟨f__law_is_integer, fd__law_is_integer, D__law_is_integer, _⟩ : ∃ f fd, My.DefF _ mg "_law_is_integer" My.s__law_is_integer ["told"] f fd ∧ True := by
      refine' ⟨_, _, My.def_mk (x := "_law_is_integer") (st := My.s__law_is_integer) (ps := ["told"]) KX G ?a ?l ?c ?k (fun _ _ _ _ _ _ us hl => match us, hl with | [_], _ => rfl), trivial⟩
      (case a => k_is); (case l => k_is); (case c => k_is); (case k => k_is)
    obtain ⟨f__law_same, fd__law_same, D__law_same, _⟩ : ∃ f fd, My.DefF _ mg "_law_same" My.s__law_same ["told", "due"] f fd ∧ True := by
      refine' ⟨_, _, My.def_mk (x := "_law_same") (st := My.s__law_same) (ps := ["told", "due"]) KX G ?a ?l ?c ?k (fun _ _ _ _ _ _ us hl => match us, hl with | [_, _], _ => rfl), trivial⟩
      (case a => k_is); (case l => k_is); (case c => k_is); (case k => k_is)
    obtain ⟨f__law_cell, fd__law_cell, D__law_cell, _⟩ : ∃ f fd, My.DefF _ mg "_law_cell" My.s__law_cell ["script", "k"] f fd ∧ True := by
      refine' ⟨_, _, My.def_mk (x := "_law_cell") (st := My.s__law_cell) (ps := ["script", "k"]) KX G ?a ?l ?c ?k (fun _ _ _ _ _ _ us hl => match us, hl with | [_, _], _ => rfl), trivial⟩
      (case a => k_is); (case l => k_is); (case c => k_is); (case k => k_is)
    obtain ⟨f__law_box, fd__law_box, D__law_box, _⟩ : ∃ f fd, My.DefF _ mg "_law_box" My.s__law_box ["script", "k"] f fd ∧ True := by
      refine' ⟨_, _, My.def_mk (x := "_law_box") (st := My.s__law_box) (ps := ["script", "k"]) KX G ?a ?l ?c ?k (fun _ _ _ _ _ _ us hl => match us, hl with | [_, _], _ => rfl), trivial⟩
      (case a => k_is); (case l => k_is); (case c => k_is); (case k => k_is)
    obtain ⟨f__law_take, fd__law_take, D__law_take, _⟩ : ∃ f fd, My.DefF _ mg "_law_take" My.s__law_take ["box", "many"] f fd ∧ True := by
      refine' ⟨_, _, My.def_mk (x := "_law_take") (st := My.s__law_take) (ps := ["box", "many"]) KX G ?a ?l ?c ?k (fun _ _ _ _ _ _ us hl => match us, hl with | [_, _], _ => rfl), trivial⟩
      (case a => k_is); (case l => k_is); (case c => k_is); (case k => k_is)
    obtain ⟨f__law_turned, fd__law_turned, D__law_turned, _⟩ : ∃ f fd, My.DefF _ mg "_law_turned" My.s__law_turned ["box", "number"] f fd ∧ True := by
      refine' ⟨_, _, My.def_mk (x := "_law_turned") (st := My.s__law_turned) (ps := ["box", "number"]) KX G ?a ?l ?c ?k (fun _ _ _ _ _ _ us hl => match us, hl with | [_, _], _ => rfl), trivial⟩
      (case a => k_is); (case l => k_is); (case c => k_is); (case k => k_is)
    obtain ⟨f__law_power, fd__law_power, D__law_power, _⟩ : ∃ f fd, My.DefF _ mg "_law_power" My.s__law_power ["root", "count"] f fd ∧ True := by
      refine' ⟨_, _, My.def_mk (x := "_law_power") (st := My.s__law_power) (ps := ["root", "count"]) KX G ?a ?l ?c ?k (fun _ _ _ _ _ _ us hl => match us, hl with | [_, _], _ => rfl), trivial⟩
      (case a => k_is); (case l => k_is); (case c => k_is); (case k => k_is)
    obtain ⟨f__law_limbs, fd__law_limbs, D__law_limbs, _⟩ : ∃ f fd, My.DefF _ mg "_law_limbs" My.s__law_limbs ["box", "count"] f fd ∧ True := by
      refine' ⟨_, _, My.def_mk (x := "_law_limbs") (st := My.s__law_limbs) (ps := ["box", "count"]) KX G ?a ?l ?c ?k (fun _ _ _ _ _ _ us hl => match us, hl with | [_, _], _ => rfl), trivial⟩
      (case a => k_is); (case l => k_is); (case c => k_is); (case k => k_is)
    obtain ⟨f__law_gcd, fd__law_gcd, D__law_gcd, _⟩ : ∃ f fd, My.DefF _ mg "_law_gcd" My.s__law_gcd ["one", "two"] f fd ∧ True := by
      refine' ⟨_, _, My.def_mk (x := "_law_gcd") (st := My.s__law_gcd) (ps := ["one", "two"]) KX G ?a ?l ?c ?k (fun _ _ _ _ _ _ us hl => match us, hl with | [_, _], _ => rfl), trivial⟩
      (case a => k_is); (case l => k_is); (case c => k_is); (case k => k_is)
    obtain ⟨f__law_lowest, fd__law_lowest, D__law_lowest, _⟩ : ∃ f fd, My.DefF _ mg "_law_lowest" My.s__law_lowest ["top", "bottom"] f fd ∧ True := by
      refine' ⟨_, _, My.def_mk (x := "_law_lowest") (st := My.s__law_lowest) (ps := ["top", "bottom"]) KX G ?a ?l ?c ?k (fun _ _ _ _ _ _ us hl => match us, hl with | [_, _], _ => rfl), trivial⟩
      (case a => k_is); (case l => k_is); (case c => k_is); (case k => k_is)
    obtain ⟨f__law_long, fd__law_long, D__law_long, _⟩ : ∃ f fd, My.DefF _ mg "_law_long" My.s__law_long ["box"] f fd ∧ True := by
      refine' ⟨_, _, My.def_mk (x := "_law_long") (st := My.s__law_long) (ps := ["box"]) KX G ?a ?l ?c ?k (fun _ _ _ _ _ _ us hl => match us, hl with | [_], _ => rfl), trivial⟩
      (case a => k_is); (case l => k_is); (case c => k_is); (case k => k_is)
    obtain ⟨f__law_number, fd__law_number, D__law_number, _⟩ : ∃ f fd, My.DefF _ mg "_law_number" My.s__law_number ["box"] f fd ∧ True := by
      refine' ⟨_, _, My.def_mk (x := "_law_number") (st := My.s__law_number) (ps := ["box"]) KX G ?a ?l ?c ?k (fun _ _ _ _ _ _ us hl => match us, hl with | [_], _ => rfl), trivial⟩
      (case a => k_is); (case l => k_is); (case c => k_is); (case k => k_is)
    obtain ⟨f__law_less, fd__law_less, D__law_less, _⟩ : ∃ f fd, My.DefF _ mg "_law_less" My.s__law_less ["a", "b"] f fd ∧ True := by
      refine' ⟨_, _, My.def_mk (x := "_law_less") (st := My.s__law_less) (ps := ["a", "b"]) KX G ?a ?l ?c ?k (fun _ _ _ _ _ _ us hl => match us, hl with | [_, _], _ => rfl), trivial⟩
      (case a => k_is); (case l => k_is); (case c => k_is); (case k => k_is)
    obtain ⟨f__law_inside, fd__law_inside, D__law_inside, _⟩ : ∃ f fd, My.DefF _ mg "_law_inside" My.s__law_inside ["top", "bottom", "low", "high"] f fd ∧ True := by
      refine' ⟨_, _, My.def_mk (x := "_law_inside") (st := My.s__law_inside) (ps := ["top", "bottom", "low", "high"]) KX G ?a ?l ?c ?k (fun _ _ _ _ _ _ us hl => match us, hl with | [_, _, _, _], _ => rfl), trivial⟩
      (case a => k_is); (case l => k_is); (case c => k_is); (case k => k_is)
    obtain ⟨f__inside, fd__inside, D__inside, _⟩ : ∃ f fd, My.DefF _ mg "_inside" My.s__inside ["low", "high"] f fd ∧ True := by
      refine' ⟨_, _, My.def_mk (x := "_inside") (st := My.s__inside) (ps := ["low", "high"]) KX G ?a ?l ?c ?k (fun _ _ _ _ _ _ us hl => match us, hl with | [_, _], _ => rfl), trivial⟩
      (case a => k_is); (case l => k_is); (case c => k_is); (case k => k_is)
    obtain ⟨f_between, fd_between, D_between, _⟩ : ∃ f fd, My.DefF _ mg "between" My.s_between ["low", "high"] f fd ∧ True := by
      refine' ⟨_, _, My.def_mk (x := "between") (st := My.s_between) (ps := ["low", "high"]) KX G ?a ?l ?c ?k (fun _ _ _ _ _ _ us hl => match us, hl with | [_, _], _ => rfl), trivial⟩
      (case a => k_is); (case l => k_is); (case c => k_is); (case k => k_is)
    obtain ⟨f__law_is_refused, fd__law_is_refused, D__law_is_refused, _⟩ : ∃ f fd, My.DefF _ mg "_law_is_refused" My.s__law_is_refused ["low", "high"] f fd ∧ True := by
      refine' ⟨_, _, My.def_mk (x := "_law_is_refused") (st := My.s__law_is_refused) (ps := ["low", "high"]) KX G ?a ?l ?c ?k (fun _ _ _ _ _ _ us hl => match us, hl with | [_, _], _ => rfl), trivial⟩
      (case a => k_is); (case l => k_is); (case c => k_is); (case k => k_is)
    obtain ⟨f__law_inverse, fd__law_inverse, D__law_inverse, _⟩ : ∃ f fd, My.DefF _ mg "_law_inverse" My.s__law_inverse ["top", "bottom"] f fd ∧ True := by
      refine' ⟨_, _, My.def_mk (x := "_law_inverse") (st := My.s__law_inverse) (ps := ["top", "bottom"]) KX G ?a ?l ?c ?k (fun _ _ _ _ _ _ us hl => match us, hl with | [_, _], _ => rfl), trivial⟩
      (case a => k_is); (case l => k_is); (case c => k_is); (case k => k_is)
    obtain ⟨f__law_is_fraction, fd__law_is_fraction, D__law_is_fraction, _⟩ : ∃ f fd, My.DefF _ mg "_law_is_fraction" My.s__law_is_fraction ["told"] f fd ∧ True := by
      refine' ⟨_, _, My.def_mk (x := "_law_is_fraction") (st := My.s__law_is_fraction) (ps := ["told"]) KX G ?a ?l ?c ?k (fun _ _ _ _ _ _ us hl => match us, hl with | [_], _ => rfl), trivial⟩
      (case a => k_is); (case l => k_is); (case c => k_is); (case k => k_is)
    obtain ⟨f__law_whole_is_simplest, fd__law_whole_is_simplest, D__law_whole_is_simplest, _⟩ : ∃ f fd, My.DefF _ mg "_law_whole_is_simplest" My.s__law_whole_is_simplest ["top", "low", "high"] f fd ∧ True := by
      refine' ⟨_, _, My.def_mk (x := "_law_whole_is_simplest") (st := My.s__law_whole_is_simplest) (ps := ["top", "low", "high"]) KX G ?a ?l ?c ?k (fun _ _ _ _ _ _ us hl => match us, hl with | [_, _, _], _ => rfl), trivial⟩
      (case a => k_is); (case l => k_is); (case c => k_is); (case k => k_is)
    obtain ⟨f__law_parents_are_outside, fd__law_parents_are_outside, D__law_parents_are_outside, _⟩ : ∃ f fd, My.DefF _ mg "_law_parents_are_outside" My.s__law_parents_are_outside ["top", "bottom", "low", "high"] f fd ∧ True := by
      refine' ⟨_, _, My.def_mk (x := "_law_parents_are_outside") (st := My.s__law_parents_are_outside) (ps := ["top", "bottom", "low", "high"]) KX G ?a ?l ?c ?k (fun _ _ _ _ _ _ us hl => match us, hl with | [_, _, _, _], _ => rfl), trivial⟩
      (case a => k_is); (case l => k_is); (case c => k_is); (case k => k_is)
    obtain ⟨f__law_none_over, fd__law_none_over, D__law_none_over, _⟩ : ∃ f fd, My.DefF _ mg "_law_none_over" My.s__law_none_over ["bottom", "low", "high"] f fd ∧ True := by
      refine' ⟨_, _, My.def_mk (x := "_law_none_over") (st := My.s__law_none_over) (ps := ["bottom", "low", "high"]) KX G ?a ?l ?c ?k (fun _ _ _ _ _ _ us hl => match us, hl with | [_, _, _], _ => rfl), trivial⟩
      (case a => k_is); (case l => k_is); (case c => k_is); (case k => k_is)
    obtain ⟨f__law_lesser_are_outside, fd__law_lesser_are_outside, D__law_lesser_are_outside, _⟩ : ∃ f fd, My.DefF _ mg "_law_lesser_are_outside" My.s__law_lesser_are_outside ["tries", "told", "low", "high"] f fd ∧ True := by
      refine' ⟨_, _, My.def_mk (x := "_law_lesser_are_outside") (st := My.s__law_lesser_are_outside) (ps := ["tries", "told", "low", "high"]) KX G ?a ?l ?c ?k (fun _ _ _ _ _ _ us hl => match us, hl with | [_, _, _, _], _ => rfl), trivial⟩
      (case a => k_is); (case l => k_is); (case c => k_is); (case k => k_is)
    obtain ⟨f__law_is_simplest, fd__law_is_simplest, D__law_is_simplest, _⟩ : ∃ f fd, My.DefF _ mg "_law_is_simplest" My.s__law_is_simplest ["tries", "told", "low", "high"] f fd ∧ True := by
      refine' ⟨_, _, My.def_mk (x := "_law_is_simplest") (st := My.s__law_is_simplest) (ps := ["tries", "told", "low", "high"]) KX G ?a ?l ?c ?k (fun _ _ _ _ _ _ us hl => match us, hl with | [_, _, _, _], _ => rfl), trivial⟩
      (case a => k_is); (case l => k_is); (case c => k_is); (case k => k_is)
    obtain ⟨f__law_neighbour, fd__law_neighbour, D__law_neighbour, _⟩ : ∃ f fd, My.DefF _ mg "_law_neighbour" My.s__law_neighbour ["box", "a"] f fd ∧ True := by
      refine' ⟨_, _, My.def_mk (x := "_law_neighbour") (st := My.s__law_neighbour) (ps := ["box", "a"]) KX G ?a ?l ?c ?k (fun _ _ _ _ _ _ us hl => match us, hl with | [_, _], _ => rfl), trivial⟩
      (case a => k_is); (case l => k_is); (case c => k_is); (case k => k_is)
    obtain ⟨f__law_near, fd__law_near, D__law_near, _⟩ : ∃ f fd, My.DefF _ mg "_law_near" My.s__law_near ["box", "a"] f fd ∧ True := by
      refine' ⟨_, _, My.def_mk (x := "_law_near") (st := My.s__law_near) (ps := ["box", "a"]) KX G ?a ?l ?c ?k (fun _ _ _ _ _ _ us hl => match us, hl with | [_, _], _ => rfl), trivial⟩
      (case a => k_is); (case l => k_is); (case c => k_is); (case k => k_is)
    obtain ⟨f__law_two_ends, fd__law_two_ends, D__law_two_ends, _⟩ : ∃ f fd, My.DefF _ mg "_law_two_ends" My.s__law_two_ends ["box"] f fd ∧ True := by
      refine' ⟨_, _, My.def_mk (x := "_law_two_ends") (st := My.s__law_two_ends) (ps := ["box"]) KX G ?a ?l ?c ?k (fun _ _ _ _ _ _ us hl => match us, hl with | [_], _ => rfl), trivial⟩
      (case a => k_is); (case l => k_is); (case c => k_is); (case k => k_is)
    obtain ⟨f__law_walk_holds, fd__law_walk_holds, D__law_walk_holds, _⟩ : ∃ f fd, My.DefF _ mg "_law_walk_holds" My.s__law_walk_holds ["box", "tries", "low", "high"] f fd ∧ True := by
      refine' ⟨_, _, My.def_mk (x := "_law_walk_holds") (st := My.s__law_walk_holds) (ps := ["box", "tries", "low", "high"]) KX G ?a ?l ?c ?k (fun _ _ _ _ _ _ us hl => match us, hl with | [_, _, _, _], _ => rfl), trivial⟩
      (case a => k_is); (case l => k_is); (case c => k_is); (case k => k_is)
    obtain ⟨f__law_size, fd__law_size, D__law_size, _⟩ : ∃ f fd, My.DefF _ mg "_law_size" My.s__law_size ["box", "count"] f fd ∧ True := by
      refine' ⟨_, _, My.def_mk (x := "_law_size") (st := My.s__law_size) (ps := ["box", "count"]) KX G ?a ?l ?c ?k (fun _ _ _ _ _ _ us hl => match us, hl with | [_, _], _ => rfl), trivial⟩
      (case a => k_is); (case l => k_is); (case c => k_is); (case k => k_is)
    obtain ⟨f__law_whole_ends, fd__law_whole_ends, D__law_whole_ends, _⟩ : ∃ f fd, My.DefF _ mg "_law_whole_ends" My.s__law_whole_ends ["box"] f fd ∧ True := by
      refine' ⟨_, _, My.def_mk (x := "_law_whole_ends") (st := My.s__law_whole_ends) (ps := ["box"]) KX G ?a ?l ?c ?k (fun _ _ _ _ _ _ us hl => match us, hl with | [_], _ => rfl), trivial⟩
      (case a => k_is); (case l => k_is); (case c => k_is); (case k => k_is)
    obtain ⟨f__law_mirrored, fd__law_mirrored, D__law_mirrored, _⟩ : ∃ f fd, My.DefF _ mg "_law_mirrored" My.s__law_mirrored ["end"] f fd ∧ True := by
      refine' ⟨_, _, My.def_mk (x := "_law_mirrored") (st := My.s__law_mirrored) (ps := ["end"]) KX G ?a ?l ?c ?k (fun _ _ _ _ _ _ us hl => match us, hl with | [_], _ => rfl), trivial⟩
      (case a => k_is); (case l => k_is); (case c => k_is); (case k => k_is)
    obtain ⟨f__law_whole_holds, fd__law_whole_holds, D__law_whole_holds, _⟩ : ∃ f fd, My.DefF _ mg "_law_whole_holds" My.s__law_whole_holds ["box"] f fd ∧ True := by
      refine' ⟨_, _, My.def_mk (x := "_law_whole_holds") (st := My.s__law_whole_holds) (ps := ["box"]) KX G ?a ?l ?c ?k (fun _ _ _ _ _ _ us hl => match us, hl with | [_], _ => rfl), trivial⟩
      (case a => k_is); (case l => k_is); (case c => k_is); (case k => k_is)
    obtain ⟨f__law_path, fd__law_path, D__law_path, _⟩ : ∃ f fd, My.DefF _ mg "_law_path" My.s__law_path ["box"] f fd ∧ True := by
      refine' ⟨_, _, My.def_mk (x := "_law_path") (st := My.s__law_path) (ps := ["box"]) KX G ?a ?l ?c ?k (fun _ _ _ _ _ _ us hl => match us, hl with | [_], _ => rfl), trivial⟩
      (case a => k_is); (case l => k_is); (case c => k_is); (case k => k_is)
    obtain ⟨f__law_toward, fd__law_toward, D__law_toward, _⟩ : ∃ f fd, My.DefF _ mg "_law_toward" My.s__law_toward ["box", "end", "middle"] f fd ∧ True := by
      refine' ⟨_, _, My.def_mk (x := "_law_toward") (st := My.s__law_toward) (ps := ["box", "end", "middle"]) KX G ?a ?l ?c ?k (fun _ _ _ _ _ _ us hl => match us, hl with | [_, _, _], _ => rfl), trivial⟩
      (case a => k_is); (case l => k_is); (case c => k_is); (case k => k_is)
    obtain ⟨f__law_path_holds, fd__law_path_holds, D__law_path_holds, _⟩ : ∃ f fd, My.DefF _ mg "_law_path_holds" My.s__law_path_holds ["box"] f fd ∧ True := by
      refine' ⟨_, _, My.def_mk (x := "_law_path_holds") (st := My.s__law_path_holds) (ps := ["box"]) KX G ?a ?l ?c ?k (fun _ _ _ _ _ _ us hl => match us, hl with | [_], _ => rfl), trivial⟩
      (case a => k_is); (case l => k_is); (case c => k_is); (case k => k_is)
    obtain ⟨f_law, fd_law, D_law, B⟩ : ∃ f fd, My.DefF _ mg "law" My.s_law ["script"] f fd ∧ ∀ (s : Shared) (v : Value), BindsTo s fd ⟨[v], []⟩ [("script", v)] := by
      refine' ⟨_, _, My.def_mk (x := "law") (st := My.s_law) (ps := ["script"]) KX G ?a ?l ?c ?k (fun _ _ _ _ _ _ us hl => match us, hl with | [_], _ => rfl), fun s v => .of_eq rfl⟩
      (case a => k_is); (case l => k_is); (case c => k_is); (case k => k_is)
    obtain ⟨A_InvalidStretch, A_InvalidText, A_DivisionByZero, A_CellspireError, A_ZERO, fI, fdI, G_InvalidStretch, G_InvalidText, G_DivisionByZero, G_CellspireError, G_ZERO, zz, OT, NA_InvalidStretch_low, NA_InvalidStretch_high, iC, tI, FI, BI, XC_InvalidStretch, e1, e2, e3, e4, e5⟩ := by
      refine' My.ends_mk KX G ?a1 ?a2 ?a3 ?a4 ?a5 ?lz ?sz ?vz ?xL ?rv ?sa ?eC ?tC ?kC ?n1 ?n2 ?iC ?tI ?l1 ?c1 ?k1 ?hg ?hk ?hd ?ha ?hn ?ht ?hm ?s1 ?e2 ?e3 ?e4 ?e5
      (case a1 => k_is)
      (case a2 => k_is)
      (case a3 => k_is)
      (case a4 => k_is)
      (case a5 => k_is)
      (case lz => k_is)
      (case sz => exact (show 2 ≤ sizeLine by decide))
      (case vz => exact .cons ⟨_, rfl⟩ (.cons ⟨_, rfl⟩ .nil))
      (case xL => k_is)
      (case rv => first | rfl | decide +kernel)
      (case sa => k_is)
      (case eC => k_is)
      (case tC => k_is)
      (case kC => k_is)
      (case n1 => k_is)
      (case n2 => k_is)
      (case iC => k_is)
      (case tI => k_is)
      (case l1 => k_is)
      (case c1 => k_is)
      (case k1 => k_is)
      (case hg => k_is)
      (case hk => k_is)
      (case hd => k_is)
      (case ha => k_is)
      (case hn => k_is)
      (case ht => k_is)
      (case hm => k_is)
      (case s1 => first | rfl | k_is)
      (case e2 => kit_is)
      (case e3 => kit_is)
      (case e4 => kit_is)
      (case e5 => kit_is)
    have z_ValueError : mg "ValueError" = none := by refine' PySem.W.mg_none_of KX G ?a; (case a => k_is)
    have T : My.Txt mg := by
      refine' ⟨PySem.W.mg_none_of KX G ?z1, PySem.W.mg_none_of KX G ?z2, PySem.W.mg_none_of KX G ?z3, PySem.W.mg_none_of KX G ?z4, PySem.W.mg_none_of KX G ?z5, PySem.W.mg_none_of KX G ?z6, PySem.W.mg_none_of KX G ?z7, PySem.W.mg_none_of KX G ?z8⟩
      (case z1 => k_is); (case z2 => k_is); (case z3 => k_is); (case z4 => k_is); (case z5 => k_is); (case z6 => k_is); (case z7 => k_is); (case z8 => k_is)
    have e := hmg.symm.trans D_law.mgf
    cases e
    exact ⟨fd_law, B, fun base _ _ => My.all_law (T := T) (z_ValueError := z_ValueError) (G_InvalidStretch := G_InvalidStretch) (G_InvalidText := G_InvalidText) (G_DivisionByZero := G_DivisionByZero) (G_CellspireError := G_CellspireError) (G_ZERO := G_ZERO) (zz := zz) (OT := OT) (NA_InvalidStretch_low := NA_InvalidStretch_low) (NA_InvalidStretch_high := NA_InvalidStretch_high) (iC := iC) (tI := tI) (FI := FI) (BI := BI) (XC_InvalidStretch := XC_InvalidStretch) (e1 := e1) (e2 := e2) (e3 := e3) (e4 := e4) (e5 := e5) (D_sign_of := D_sign_of) (D_compare := D_compare) (D_floor := D_floor) (D__law_is_integer := D__law_is_integer) (D__law_same := D__law_same) (D__law_cell := D__law_cell) (D__law_box := D__law_box) (D__law_take := D__law_take) (D__law_turned := D__law_turned) (D__law_power := D__law_power) (D__law_limbs := D__law_limbs) (D__law_gcd := D__law_gcd) (D__law_lowest := D__law_lowest) (D__law_long := D__law_long) (D__law_number := D__law_number) (D__law_less := D__law_less) (D__law_inside := D__law_inside) (D__inside := D__inside) (D_between := D_between) (D__law_is_refused := D__law_is_refused) (D__law_inverse := D__law_inverse) (D__law_is_fraction := D__law_is_fraction) (D__law_whole_is_simplest := D__law_whole_is_simplest) (D__law_parents_are_outside := D__law_parents_are_outside) (D__law_none_over := D__law_none_over) (D__law_lesser_are_outside := D__law_lesser_are_outside) (D__law_is_simplest := D__law_is_simplest) (D__law_neighbour := D__law_neighbour) (D__law_near := D__law_near) (D__law_two_ends := D__law_two_ends) (D__law_walk_holds := D__law_walk_holds) (D__law_size := D__law_size) (D__law_whole_ends := D__law_whole_ends) (D__law_mirrored := D__law_mirrored) (D__law_whole_holds := D__law_whole_holds) (D__law_path := D__law_path) (D__law_toward := D__law_toward) (D__law_path_holds := D__law_path_holds) (D_law := D_law)⟩
