import PyProof.Rows.All
import Wide.All
import OpenK.AllK
import Wide.FinOn
import HandS.ForMost
import HandS.ForExc
import HandS.Wide
import HandS.WideBits
import HandS.TupAny
import HandS.Rev
import HandS.Walk
import HandS.IsInst
import HandS.ExcIs
import HandS.Small
import HandS.Gcd
import HandS.Defaults
import HandS.Evl
import KE.GoesMore
import KE.RegKIsAll
import PySem.Challenge.RW_cellspire_k03_rows_and_division
set_option Elab.async false
set_option linter.all false
set_option maxRecDepth 100000
set_option maxHeartbeats 4000000
namespace My
open PySem PySem.Spec PyProof.Rows L2

/-! ### rules that were lacking: * and // of any size, enumerate over a tuple, a def called by its name -/
section
variable {X : Cx}
theorem op_mulG : OpR X (binaryOp .Mult) (rI IntMulOk fun i j => .int (i * j)) := opI fun _ _ _ _ _ _ _ hc q => mul_int q hc
def CDivG (_ j : Int) : Prop := j ≠ 0 ∧ j.natAbs.log2 < 9000
theorem op_fdivG : OpR X (binaryOp .FloorDiv) (rI CDivG fun i j => .int (i.fdiv j)) := opI fun i j _ _ _ _ _ hc q => floordiv_int hc.1 q (.inl (PyProof.noPylong_of_log2 hc.2))
end
theorem mul_ok_r {i j : Int} (h : j.natAbs < 2 ^ 63) : IntMulOk i j := CMul.ok (.inr ⟨by omega, by omega⟩)
theorem mul_ok_l {i j : Int} (h : i.natAbs < 2 ^ 63) : IntMulOk i j := CMul.ok (.inl ⟨by omega, by omega⟩)
theorem mul_ok {i j : Int} {a b : Nat} (ha : i.natAbs < 2 ^ a) (hb : j.natAbs < 2 ^ b) (h : a + b ≤ 134217728) : IntMulOk i j := CMulX.ok (mulx_ok ha hb h)
theorem div_ok {i j : Int} {b : Nat} (h : j ≠ 0) (hb : j.natAbs < 2 ^ b) (h9 : b ≤ 9000) : CDivG i j := by
  have h0 : 0 < b := by
    rcases Nat.eq_zero_or_pos b with z | z
    · subst z
      have : j.natAbs < 1 := hb
      omega
    · exact z
  exact ⟨h, Nat.lt_of_lt_of_le (PySem.Flt.log2_lt_of h0 hb) h9⟩

section
variable {prog : Program} {w : World} {A : Around} {E : Value → Shared → Prop} {s : Shared}
set_option maxHeartbeats 1000000 in
theorem meets_enumerate_newT (a : Addr) (items : Array Value) :
    Meets (Builtin.«enumerate.__new__» ⟨[.type "enumerate", .ref a], []⟩) (fun _ R s => s.heap.IsTuple a items ∧
      R (.ok (.ret (.ref (s.heap.push { cls := .type "tuple_iterator", data := .fields #[.ref a, .int 0 0] }).objs.size)))
        { s with heap := (s.heap.push { cls := .type "tuple_iterator", data := .fields #[.ref a, .int 0 0] }).push { cls := .type "enumerate", data := .fields #[.none, .bool false, .ref s.heap.objs.size, rawInt 0, .none, .none] } }) :=
  .of_wp fun prog w A R s h => by
    obtain ⟨hp, g, d, tk, os⟩ := s
    obtain ⟨hT, h⟩ := h
    have hsub := sub_enumerate
    have q1 : ∀ {A' : Around} {E : Value → Shared → Prop} {Q : Value → Shared → Prop}, Q (.ref hp.objs.size) ⟨hp.push { cls := .type "tuple_iterator", data := .fields #[.ref a, .int 0 0] }, g, d, tk, os⟩ → wpAny (model prog w) A' (pyIter (.ref a)) Q E ⟨hp, g, d, tk, os⟩ :=
      fun q => wpAny_pyIter_tuple (s := ⟨hp, g, d, tk, os⟩) hT q
    wp_walk using q1
    refine wpAny_stack_any fun st => wpAny_pure ?_
    split
    · rename_i c _ _ _ _ _
      cases (c == Value.type "enumerate")
      · wp_walk using q1
        exact ⟨_, rfl, h⟩
      · wp_walk using q1
        exact ⟨_, rfl, h⟩
    · wp_walk using q1
      exact ⟨_, rfl, h⟩
theorem call_enumerate_tuple {a : Addr} {items : Array Value} {Q : Value → Shared → Prop} (hL : s.heap.IsTuple a items)
    (h : ∀ h', IsEnum h' (s.heap.objs.size + 1) s.heap.objs.size 0 .none → h'.IsTupleIter s.heap.objs.size a 0 → h'.objs.size = s.heap.objs.size + 2 →
      (∀ b o, s.heap.get? b = some o → h'.get? b = some o) → Q (.ref (s.heap.objs.size + 1)) { s with heap := h' }) :
    wpAny (model prog w) A (call (.type "enumerate") [.ref a]) Q E s := by
  refine callType_new F.called_enumerate (by decide) (F.typeCall_enumerate_1 _) (F.newCall_enumerate_1 _) (fun obj => F.args_object_init_2 obj _) F.entry_enumerate_new
    (meets_enumerate_newT a items) ⟨hL, ?_⟩
  have hz : (s.heap.push { cls := .type "tuple_iterator", data := .fields #[.ref a, .int 0 0] }).objs.size = s.heap.objs.size + 1 := Heap.size_push ..
  show _ ∧ _
  rw [hz]
  have he : IsEnum ((s.heap.push { cls := .type "tuple_iterator", data := .fields #[.ref a, .int 0 0] }).push
      { cls := .type "enumerate", data := .fields #[.none, .bool false, .ref s.heap.objs.size, rawInt 0, .none, .none] }) (s.heap.objs.size + 1) s.heap.objs.size 0 .none := by
    have := Heap.get?_push_size (s.heap.push { cls := .type "tuple_iterator", data := .fields #[.ref a, .int 0 0] })
      (o := { cls := .type "enumerate", data := .fields #[.none, .bool false, .ref s.heap.objs.size, rawInt 0, .none, .none] }) rfl
    rw [hz] at this; exact this
  refine ⟨⟨_, he, rfl⟩, h _ he ⟨_, Heap.get?_push_of_some _ (Heap.get?_push_size _ rfl), rfl, rfl⟩ (by rw [Heap.size_push, hz]) fun b o x => Heap.get?_push_of_some _ (Heap.get?_push_of_some _ x)⟩
end
def IteT (K : PySem.W.Frag) (a : Addr) (n : Nat) : It :=
  ⟨fun i H => i < n ∧ ∃ (xs : List V) (x : V), SqT K H a xs ∧ xs[i]? = some x, fun i H v H' => ∃ T x, v = .ref T ∧ H T = none ∧ H' = upd H T (.tup [.int (i : Nat), x]) ∧ ∀ xs, SqT K H a xs → xs[i]? = some x, fun i H => n ≤ i ∧ ∃ xs : List V, SqT K H a xs ∧ xs.length = n⟩
theorem turn_enumT {P : Program} {w : World} {K : PySem.W.Frag} {elts : List Expr} {kk : Nat} {tpos : Pos} (a e it : Addr) (n : Nat) :
    Turn P w K (.Tuple elts kk tpos) (IteT K a n) [e, it] e (fun i h => (∃ old, IsEnum h e it ((i : Nat) : Int) old) ∧ h.IsTupleIter it a i ∧ e ≠ it ∧ i ≤ n) where
  mem := by simp
  obj := fun i h st b hb => by
    obtain ⟨⟨old, he⟩, ⟨o, ho, hc, hd⟩, _⟩ := st
    have e' : b = e ∨ b = it := by simpa using hb
    rcases e' with z | z
    · rw [z]; exact ⟨_, he, fun v q => nomatch q⟩
    · rw [z]; exact ⟨o, ho, fun v q => by rw [hd] at q; cases q⟩
  keep := fun i h h' st k => let ⟨⟨old, he⟩, hi, hne⟩ := st; ⟨⟨old, k e (by simp) _ he⟩, hi.at fun o q => k it (by simp) o q, hne⟩
  item := by
    intro X hP hw hK hc i pins s σ H E I hf st hg
    subst hP hw hK
    obtain ⟨⟨old, he⟩, hit, hne, hin⟩ := st
    obtain ⟨hlt, xs, x, hq, hx⟩ := hg
    obtain ⟨its, rv, p, hz⟩ := I.tuple hq
    obtain ⟨u, hu, ru⟩ := rv.get hx
    have hel : e < s.heap.objs.size := Heap.lt_size he
    have hil : it < s.heap.objs.size := by obtain ⟨_, q, _⟩ := hit; exact Heap.lt_size q
    have ha : ∃ o, s.heap.get? a = some o ∧ o.cls = .type "tuple" := by obtain ⟨o, h1, h2, _⟩ := p; exact ⟨o, h1, h2⟩
    obtain ⟨oa, hoa, hca⟩ := ha
    have hae : a ≠ e := fun z => by
      rw [z, he] at hoa
      have hoa := Option.some.inj hoa
      rw [← hoa] at hca
      exact absurd (show Value.type "enumerate" = Value.type "tuple" from hca) (by decide)
    have hai : a ≠ it := fun z => by
      obtain ⟨o, h1, h2, _⟩ := hit
      rw [z, h1] at hoa
      cases hoa
      rw [h2] at hca
      exact absurd hca (by decide)
    have hT0 : s.heap.IsTuple a its.toArray := p
    have D := Draws.tuple (prog := X.prog) (w := X.w) (A := X.A.in1) (show X.A.in1.handled = none from I.ok.hd hc) it a hai its.toArray
    have hilt : i < its.toArray.size := by
      have := (List.getElem?_eq_some_iff.mp hu).1
      simpa using this
    refine wpAny_pyNext_enum_itemD D he ⟨hit, hT0⟩ hilt hne (by simp [hne, Ne.symm hae]) fun x' h' tk hP' ho hst' hT hsz hk => ?_
    have eu : x' = u := by
      have q : its.toArray[i]? = some x' := hP'
      rw [List.getElem?_toArray, hu] at q
      exact (Option.some.inj q).symm
    subst eu
    obtain ⟨hit', _⟩ := hst'
    refine ⟨_, rfl, wpAny_letOwnedTupleGo_enum (s := { s with heap := h', toks := tk + 1 }) ho fun h'' he' sb => ?_⟩
    have hT2 : h''.get? s.heap.objs.size = some { cls := .type "tuple", data := .seq #[.int i tk, x'] } := (sb.2 _ (Nat.ne_of_gt hel)).trans hT
    have new : ObjOk X.prog X.w (upd H s.heap.objs.size (.tup [.int (i : Nat), x])) h'' s.heap.objs.size (.tup [.int (i : Nat), x]) :=
      ⟨by show 2 ≤ sizeLine; decide, [.int i tk, x'], .cons ⟨_, rfl⟩ (.cons ru .nil), ⟨_, hT2, rfl, _, rfl⟩⟩
    have I1 : Inv X pins σ (upd H s.heap.objs.size (.tup [.int (i : Nat), x])) { s with heap := h'', toks := tk + 1 } :=
      I.turnedNew (ch := [e, it]) (fun b ob hb q => (sb.2 b (fun z => hb (by simp [z]))).trans (hk b ob (fun z => hb (by simp [z])) (fun z => hb (by simp [z])) q)) hf (Nat.le_refl _) new
    refine ⟨.ref s.heap.objs.size, _, I1, rfl, ⟨_, x, rfl, I.hok.fresh (Nat.le_refl _), rfl, fun ys hy => by rw [I.tuple_inj hy hq]; exact hx⟩, ⟨⟨x', ?_⟩, hit'.at fun o q => (sb.2 it (Ne.symm hne)).trans q, hne, hlt⟩, fun b hb => ?_⟩
    · have e1 : ((i + 1 : Nat) : Int) = (i : Int) + 1 := by omega
      rw [e1]; exact he'
    · have hb' : b < s.heap.objs.size := by
        have e' : b = e ∨ b = it := by simpa using hb
        rcases e' with z | z
        · rw [z]; exact hel
        · rw [z]; exact hil
      rw [upd_ne (Nat.ne_of_lt hb')]
      exact (hf b hb).1
  done := by
    intro X hP hw hK hc i pins s σ H E I hf st hg
    subst hP hw hK
    obtain ⟨⟨old, he⟩, hit, hne, hin⟩ := st
    obtain ⟨hge, xs, hq, hxl⟩ := hg
    obtain ⟨its, rv, p, hz⟩ := I.tuple hq
    obtain ⟨f0, f1, f2, f3, f4, f5⟩ := hf it (by simp)
    have hl := rv.length
    have ha : ∃ o, s.heap.get? a = some o ∧ o.cls = .type "tuple" := by obtain ⟨o, h1, h2, _⟩ := p; exact ⟨o, h1, h2⟩
    obtain ⟨oa, hoa, hca⟩ := ha
    have hai : a ≠ it := fun z => by
      obtain ⟨o, h1, h2, _⟩ := hit
      rw [z, h1] at hoa
      cases hoa
      rw [h2] at hca
      exact absurd hca (by decide)
    have D := Draws.tuple (prog := X.prog) (w := X.w) (A := X.A.in1) (show X.A.in1.handled = none from I.ok.hd hc) it a hai its.toArray
    have ei : i = its.toArray.size := by
      simp only [List.size_toArray]
      omega
    refine wpAny_pyNext_enum_endD D he (show s.heap.IsTupleIter it a its.toArray.size ∧ s.heap.IsTuple a its.toArray from ⟨by rw [← ei]; exact hit, p⟩) fun h' eb => ⟨rfl, I.turned (t' := s.toks) (fun b o hb q => eb b o hb q) f0 f1 f3 f4 f5⟩
  self := fun A i s Q E st h => let ⟨⟨_, he⟩, _⟩ := st; wpAny_pyIter_enum he h
def iEnumT (K : PySem.W.Frag) (ta : TA) : TI := fun σ H R => ta σ H fun vs H1 => ∃ a xs, vs = [.ref a] ∧ SqT K H1 a xs ∧ R (IteT K a xs.length) H1
theorem pi_enumT {X : Cx} {e : Expr} {ta : TA} {p pos tpos : Pos} {elts : List Expr} {kk : Nat} (hg : Gl X "enumerate") (hm : X.mg "enumerate" = none) (ha : PA X [e] ta) (hs : starEach [e] X.env = [(false, eval e X.env)] := by rfl) :
    PI X (.Tuple elts kk tpos) (.Call (.Name "enumerate" p) [e] [] pos) (iEnumT X.K ta) := by
  refine ⟨fun pins s σ H R I h => ?_⟩
  refine Call_ (ld_blt I hg hm boot_enumerate (PyProof.Rows.callWith_type1 (thn (ha.run pos pins s σ H _ I h) fun us s1 ⟨vs, H1, I1, r1, q1⟩ => ?_) hs rfl))
  obtain ⟨a, xs, ex, hq, q⟩ := q1
  subst ex
  cases r1 with
  | cons r rr =>
    cases rr
    cases r
    obtain ⟨its, rv, p', hz⟩ := I1.tuple hq
    refine call_enumerate_tuple (show s1.heap.IsTuple a its.toArray from p') fun h' he hit hsz hk => wpAny_pyIter_enum he ?_
    have I2 : Inv X pins σ H1 { s1 with heap := h' } := I1.kept (t' := s1.toks) hk
    refine ⟨s1.heap.objs.size + 1, [s1.heap.objs.size + 1, s1.heap.objs.size], _, _, H1, rfl, I2, turn_enumT a (s1.heap.objs.size + 1) s1.heap.objs.size xs.length, ⟨⟨.none, he⟩, hit, Nat.succ_ne_self _, Nat.zero_le _⟩, fun b hb => ?_, q⟩
    have e' : b = s1.heap.objs.size + 1 ∨ b = s1.heap.objs.size := by simpa using hb
    have hle : s1.heap.objs.size ≤ b := by
      rcases e' with z | z
      · rw [z]; exact Nat.le_add_right _ _
      · rw [z]; exact Nat.le_refl _
    exact I1.fpOk hle (I1.hok.fresh hle)
theorem walk_enumT {K : PySem.W.Frag} {a : Addr} {xs : List V} : Walk (IteT K a xs.length) xs.length (fun H => SqT K H a xs) (YPair (fun i => some (.int (i : Nat))) (fun i => xs[i]?)) := by
  refine ⟨fun i _ hi q => ⟨hi, xs, xs[i], q, by simp [hi]⟩, fun _ q => ⟨Nat.le_refl _, xs, q, rfl⟩, fun i H v H' _ q y => ?_⟩
  obtain ⟨T, x, h1, h2, h3, h4⟩ := y
  exact ⟨T, .int (i : Nat), x, h1, h2, h3, rfl, h4 xs q⟩

/-! ### a def that may be called by its name; what it lets out is told by the promise -/
structure Cal (P : Program) (w : World) (K : PySem.W.Frag) (mg : Str → Option Value) (base : Heap) (k : Nat) (x : Str) (sp : Sp) : Prop where
  ex : ∃ (f : Addr) (fd : FuncData) (ps : List Str), FnOk P w K mg base (L2.CX P w) k f fd ps sp ∧ mg x = some (.ref f) ∧ PySem.W.keepIn K (.ref f) = true ∧ Binds K fd ps []
/-- a def of the module under its name -/
structure DefF (K : PySem.W.Frag) (mg : Str → Option Value) (x : Str) (st : Stmt) (ps : List Str) (f : Addr) (fd : FuncData) : Prop where
  fn : Fun K x x st f fd
  mgf : mg x = some (.ref f)
  bi : Binds K fd ps []
section
variable {P : Program} {w : World} {K : PySem.W.Frag} {mg : Str → Option Value} {base : Heap}
/-- a def that raises nothing -/
theorem cal_of {x : Str} {st : Stmt} {f : Addr} {fd : FuncData} {N ps : List Str} {k : Nat} {sp : Sp} (F : DefF K mg x st ps f fd) (S : FnScope N ps (defScope st)) (len : ∀ vs H Q E, sp vs H Q E → vs.length = ps.length)
    (hbody : ∀ (cdv : Value) (A : Around) (outer : List Env) (s : Shared) (H : Hp) (vs : List V) (Q : VK) (E : XK), Room k (A.deeper (envOfC x (defScope st) s.heap.objs.size f cdv)) → sp vs H Q E →
      ∃ t, PSs (cxOf (L2.CX P w) P w K mg base N x (defScope st) f cdv A outer s H E).nox (defBody st) t ∧ t { nx := fun _ H' => Q .non H', rt := Q } (start N vs) H) : Cal P w K mg base (k + 1) x sp :=
  ⟨f, fd, ps, F.fn.okX S len fun cdv A outer s H vs Q E hr h => let ⟨t, h1, h2⟩ := hbody cdv A outer s H vs Q E hr h; ⟨t, h1.nox, h2⟩, F.mgf, F.fn.kp, F.bi⟩
/-- a def that may raise -/
theorem cal_ofX {x : Str} {st : Stmt} {f : Addr} {fd : FuncData} {N ps : List Str} {k : Nat} {sp : Sp} (F : DefF K mg x st ps f fd) (S : FnScope N ps (defScope st)) (len : ∀ vs H Q E, sp vs H Q E → vs.length = ps.length)
    (hbody : ∀ (cdv : Value) (A : Around) (outer : List Env) (s : Shared) (H : Hp) (vs : List V) (Q : VK) (E : XK), Room k (A.deeper (envOfC x (defScope st) s.heap.objs.size f cdv)) → sp vs H Q E →
      ∃ t, PSs (cxOf (L2.CX P w) P w K mg base N x (defScope st) f cdv A outer s H E) (defBody st) t ∧ t { nx := fun _ H' => Q .non H', rt := Q } (start N vs) H) : Cal P w K mg base (k + 1) x sp :=
  ⟨f, fd, ps, F.fn.okX S len hbody, F.mgf, F.fn.kp, F.bi⟩
theorem Cal.mono {x : Str} {j k : Nat} {sp : Sp} (c : Cal P w K mg base j x sp) (h : j ≤ k) : Cal P w K mg base k x sp :=
  let ⟨f, fd, ps, F, r⟩ := c.ex; ⟨f, fd, ps, F.mono h, r⟩
theorem Cal.imp {x : Str} {k : Nat} {sp sp' : Sp} (c : Cal P w K mg base k x sp) (h : ∀ vs H Q E, sp' vs H Q E → sp vs H Q E) : Cal P w K mg base k x sp' :=
  let ⟨f, fd, ps, F, r⟩ := c.ex; ⟨f, fd, ps, F.imp h, r⟩
end
section
variable {X : Cx} {k j : Nat} {x : Str} {sp : Sp} {p pos : Pos} {e : Expr} {es : List Expr} {t : TA}
/-- f(e, ..), nothing is let out -/
theorem pe_cc (c : Cal X.prog X.w X.K X.mg X.base k x sp) (hr : Room j X.A) (hk : k ≤ j) (hg : Gl X x) (ha : PA X (e :: es) t)
    (hdb : (x == ("__debug__" : Str)) = false := by decide) (he : starEach (e :: es) X.env = (false, eval e X.env) :: starEach es X.env := by rfl) (hpl : (backTo pos (starEach es X.env)).any (·.1) = false := by rfl) :
    PE X (.Call (.Name x p) (e :: es) [] pos) (tCall sp [] E0 t) := by
  obtain ⟨f, fd, ps, F, hm, kp, b⟩ := c.ex
  exact pe_call F (hr.mono hk) hg hm kp b .nil passL ha hdb he hpl
/-- f(e, ..) within a try: what is let out is wished for at the caller's slots -/
theorem pe_ccS {W : WX} (c : Cal X.prog X.w X.K X.mg X.base k x sp) (hr : Room j X.A) (hk : k ≤ j) (hg : Gl X x) (tk : Takes X W) (ha : PA X (e :: es) t)
    (hdb : (x == ("__debug__" : Str)) = false := by decide) (he : starEach (e :: es) X.env = (false, eval e X.env) :: starEach es X.env := by rfl) (hpl : (backTo pos (starEach es X.env)).any (·.1) = false := by rfl) :
    PE X (.Call (.Name x p) (e :: es) [] pos) (tCallS sp (WE W) t) := by
  obtain ⟨f, fd, ps, F, hm, kp, b⟩ := c.ex
  exact pe_callS F (hr.mono hk) hg hm kp b (fun σ => passAt tk σ) ha hdb he hpl
end

/-! ### how the heap may change: all that is tracked stands, but for lists at L -/
def Ch (L : List Addr) (H H' : Hp) : Prop := ∀ a o, H a = some o → H' a = some o ∨ (a ∈ L ∧ ∃ xs ys, o = .lst xs ∧ H' a = some (.lst ys))
section
variable {L M : List Addr} {H H1 H2 H' : Hp} {K : PySem.W.Frag} {a b l p : Addr} {xs ys : List V} {o : HO}
theorem Ch.refl : Ch L H H := fun _ _ h => .inl h
theorem Ch.mono (c : Ch L H H') (h : ∀ a ∈ L, a ∈ M) : Ch M H H' := fun a o e => (c a o e).imp id fun ⟨m, r⟩ => ⟨h a m, r⟩
theorem Ch.of0 (c : Ch [] H H') : Ch L H H' := c.mono fun _ m => nomatch m
theorem Ch.trans (c : Ch L H H1) (d : Ch L H1 H2) : Ch L H H2 := fun a o e => by
  rcases c a o e with h | ⟨m, xs, ys, rfl, h⟩
  · exact d a o h
  · rcases d a _ h with h2 | ⟨_, _, zs, _, h2⟩
    · exact .inr ⟨m, xs, ys, rfl, h2⟩
    · exact .inr ⟨m, xs, zs, rfl, h2⟩
/-- a list that was new may change as it will -/
theorem Ch.cut (c : Ch L H H1) (hn : H l = none) (d : Ch [l] H1 H2) : Ch L H H2 := fun a o e => by
  have ne : a ≠ l := ne_of_none e hn
  rcases c a o e with h | ⟨m, xs, ys, rfl, h⟩
  · rcases d a o h with h2 | ⟨m2, _⟩
    · exact .inl h2
    · exact absurd (List.mem_singleton.mp m2) ne
  · rcases d a _ h with h2 | ⟨m2, _⟩
    · exact .inr ⟨m, xs, ys, rfl, h2⟩
    · exact absurd (List.mem_singleton.mp m2) ne
theorem Ch.trans0 (c : Ch L H H1) (d : Ch [] H1 H2) : Ch L H H2 := c.trans d.of0
theorem Ch.new (h : H p = none) : Ch [] H (upd H p o) := fun a u e => .inl (by rw [upd_ne (ne_of_none e h)]; exact e)
theorem Ch.set (h : H l = some (.lst xs)) : Ch [l] H (upd H l (.lst ys)) := fun a u e => by
  by_cases q : a = l
  · subst q
    rw [h] at e
    cases e
    exact .inr ⟨List.mem_singleton.mpr rfl, xs, ys, rfl, upd_same⟩
  · exact .inl (by rw [upd_ne q]; exact e)
theorem Ch.free (c : Ch L H H') (h : H' p = none) : H p = none := by
  cases q : H p with
  | none => rfl
  | some u =>
    rcases c p u q with e | ⟨_, _, _, _, e⟩
    · rw [h] at e
      cases e
    · rw [h] at e
      cases e
theorem Ch.tup (c : Ch L H H') (h : H a = some (.tup xs)) : H' a = some (.tup xs) := by
  rcases c a _ h with e | ⟨_, _, _, q, _⟩
  · exact e
  · cases q
theorem Ch.frz {ob : Obj} {u : HO} (c : Ch L H H') (h : H a = some (.frz ob u)) : H' a = some (.frz ob u) := by
  rcases c a _ h with e | ⟨_, _, _, q, _⟩
  · exact e
  · cases q
theorem Ch.sqT (c : Ch L H H') (h : SqT K H a xs) : SqT K H' a xs := by
  rcases h with (h | ⟨o, h⟩) | h
  · exact .inl (.inl (c.tup h))
  · exact .inl (.inr ⟨o, c.frz h⟩)
  · exact .inr h
theorem Ch.at0 (c : Ch [] H H') (h : H a = some o) : H' a = some o := (c a o h).elim id fun ⟨m, _⟩ => nomatch m
theorem Ch.at1 (c : Ch [l] H H') (ne : a ≠ l) (h : H a = some o) : H' a = some o := (c a o h).elim id fun ⟨m, _⟩ => absurd (List.mem_singleton.mp m) ne
theorem Ch.sq0 (c : Ch [] H H') (h : SqL K H a xs) : SqL K H' a xs := by
  rcases h with (h | ⟨o, h⟩) | h
  · exact .inl (.inl (c.at0 h))
  · exact .inl (.inr ⟨o, c.frz h⟩)
  · exact .inr h
theorem Ch.same (c : Ch [] H H') : Same H H' := fun a o h => c.at0 h
end

/-! ### ints as values -/
abbrev ivs (p : List Int) : List V := p.map V.int
theorem ivs_get {p : List Int} {i : Nat} {x : Int} (h : p[i]? = some x) : (ivs p)[i]? = some (.int x) := by
  rw [List.getElem?_map, h]
  rfl
theorem ivs_get_inv {p : List Int} {i : Nat} {v : V} (h : (ivs p)[i]? = some v) : ∃ x, p[i]? = some x ∧ v = .int x := by
  rw [List.getElem?_map] at h
  cases e : p[i]? with
  | none =>
    rw [e] at h
    cases h
  | some x =>
    rw [e] at h
    exact ⟨x, rfl, (Option.some.inj h).symm⟩
theorem atI_ivs {p : List Int} {i : Nat} {k : Int} (hk : k = (i : Int)) (h : i < p.length) : atI (ivs p) k = some (.int p[i]) := by
  subst hk
  exact atI_nat (ivs_get (List.getElem?_eq_getElem h))
theorem atI_int {p : List Int} {k x : Int} {i : Nat} (hk : k = (i : Int)) (h : p[i]? = some x) : atI (ivs p) k = some (.int x) := by
  subst hk
  exact atI_nat (ivs_get h)
theorem sz_le {n : Nat} (h : n ≤ 100000) : n ≤ sizeLine := Nat.le_trans h (by decide)
theorem sz_lt {n : Nat} (h : n < 100000) : n < sizeLine := Nat.lt_of_lt_of_le h (by decide)

/-! ### readings, step by step; the ends of a block stand as a constructor -/
section
variable {σ : L2.St} {H : Hp} {Q : VK} {K : PySem.W.Frag} {ta tb te : TE} {t u : TS} {D : Ends} {a : Addr} {xs : List V} {v x y : V} {i j : Int} {n : Nat} {r : R2}
  {N B C : L2.St → Hp → Prop} {R : VK}
theorem w_seq (h : t ⟨u ⟨N, R, B, C⟩, R, B, C⟩ σ H) : tSeq t u ⟨N, R, B, C⟩ σ H := h
theorem w_asg (h : te σ H fun x H1 => N (σ.set n (some x)) H1) : tAsg te (gName n) ⟨N, R, B, C⟩ σ H := h
theorem w_asgG {g : TG} (h : te σ H fun x H1 => g x σ H1 N) : tAsg te g ⟨N, R, B, C⟩ σ H := h
theorem w_ret (h : te σ H R) : tRet te ⟨N, R, B, C⟩ σ H := h
theorem w_drop (h : te σ H fun _ H1 => N σ H1) : tDrop te ⟨N, R, B, C⟩ σ H := h
theorem w_if {c : TT} (h : c σ H fun b H1 => if b = true then t ⟨N, R, B, C⟩ σ H1 else u ⟨N, R, B, C⟩ σ H1) : tIfS c t u ⟨N, R, B, C⟩ σ H := h
theorem w_next (h : N σ H) : tNext ⟨N, R, B, C⟩ σ H := h
theorem w_break (h : B σ H) : tBreak ⟨N, R, B, C⟩ σ H := h
theorem w_continue (h : C σ H) : tCont ⟨N, R, B, C⟩ σ H := h
theorem w_par {n m : Nat} {tr : TA} (h : tr σ H fun vs H1 => ∃ v w, vs = [v, w] ∧ N ((σ.set n (some v)).set m (some w)) H1) : tPar n m tr ⟨N, R, B, C⟩ σ H := h
theorem w_two {w : V} {S : V → V → Prop} (h : S v w) : ∃ v' w', [v, w] = [v', w'] ∧ S v' w' := ⟨v, w, rfl, h⟩
theorem w_cut {M : L2.St → Hp → Prop} (h : t ⟨M, R, B, C⟩ σ H) (k : ∀ σ' H', M σ' H' → u ⟨N, R, B, C⟩ σ' H') : Evl.tCut t u ⟨N, R, B, C⟩ σ H := ⟨M, h, k⟩
theorem w_var (e : σ[n]? = some (some v)) (h : Q v H) : tVar n σ H Q := ⟨v, e, h⟩
theorem w_c (h : Q v H) : tC v σ H Q := h
theorem w_op (h : ta σ H fun x H1 => tb σ H1 fun y H2 => r x y H2 Q) : tOp r ta tb σ H Q := h
theorem w_un {f : V → Hp → VK → Prop} (h : ta σ H fun x H1 => f x H1 Q) : tUn f ta σ H Q := h
theorem w_I0 {g : Int → Int → V} (h : Q (g i j) H) : rI0 g (.int i) (.int j) H Q := ⟨i, j, rfl, rfl, h⟩
theorem w_I {C : Int → Int → Prop} {g : Int → Int → V} (c : C i j) (h : Q (g i j) H) : rI C g (.int i) (.int j) H Q := ⟨i, j, rfl, rfl, c, h⟩
theorem w_mod {g : Int → Int → V} (c : 0 < j) (h : Q (g i j) H) : rI (fun _ j => 0 < j) g (.int i) (.int j) H Q := ⟨i, j, rfl, rfl, c, h⟩
theorem w_div {g : Int → Int → V} (c : 0 < j) (d : j < 1073741824) (h : Q (g i j) H) : rI CDiv g (.int i) (.int j) H Q := ⟨i, j, rfl, rfl, ⟨c, d⟩, h⟩
theorem w_pow {g : Int → Int → V} (c : 0 ≤ j) (d : j ≤ 1000000) (e : i.natAbs < 2 ^ 64) (h : Q (g i j) H) : rI CPow g (.int i) (.int j) H Q := ⟨i, j, rfl, rfl, ⟨c, d, e⟩, h⟩
theorem w_mulr {g : Int → Int → V} (c : j.natAbs < 2 ^ 63) (h : Q (g i j) H) : rI IntMulOk g (.int i) (.int j) H Q := ⟨i, j, rfl, rfl, mul_ok_r c, h⟩
theorem w_mull {g : Int → Int → V} (c : i.natAbs < 2 ^ 63) (h : Q (g i j) H) : rI IntMulOk g (.int i) (.int j) H Q := ⟨i, j, rfl, rfl, mul_ok_l c, h⟩
theorem w_U {g : Int → V} (h : Q (g i) H) : rU g (.int i) H Q := ⟨i, rfl, h⟩
theorem w_eqI (h : Q (.bl (decide (i = j))) H) : rEq (.int i) (.int j) H Q := ⟨rfl, by
  have e : decide (V.int i = V.int j) = decide (i = j) := by
    by_cases q : i = j
    · subst q
      rw [decide_eq_true rfl, decide_eq_true rfl]
    · rw [decide_eq_false q, decide_eq_false fun z => q (V.int.inj z)]
  rw [e]
  exact h⟩
theorem w_neI (h : Q (.bl (!decide (i = j))) H) : rNe (.int i) (.int j) H Q := ⟨rfl, by
  have e : decide (V.int i = V.int j) = decide (i = j) := by
    by_cases q : i = j
    · subst q
      rw [decide_eq_true rfl, decide_eq_true rfl]
    · rw [decide_eq_false q, decide_eq_false fun z => q (V.int.inj z)]
  rw [e]
  exact h⟩
theorem w_ixT (h : SqT K H a xs) (e : atI xs i = some v) (q : Q v H) : rIxT K (.ref a) (.int i) H Q := ⟨a, xs, i, v, rfl, rfl, h, e, q⟩
theorem w_ixL (h : SqL K H a xs) (e : atI xs i = some v) (q : Q v H) : rIxL K (.ref a) (.int i) H Q := ⟨a, xs, i, v, rfl, rfl, h, e, q⟩
theorem w_ixTi {p : List Int} {z : Int} {k : Nat} (h : SqT K H a (ivs p)) (hk : i = (k : Int)) (e : p[k]? = some z) (q : Q (.int z) H) : rIxT K (.ref a) (.int i) H Q := w_ixT h (atI_int hk e) q
theorem w_ixLi {p : List Int} {z : Int} {k : Nat} (h : H a = some (.lst (ivs p))) (hk : i = (k : Int)) (e : p[k]? = some z) (q : Q (.int z) H) : rIxL K (.ref a) (.int i) H Q := w_ixL (.of h) (atI_int hk e) q
theorem w_test {R : Bool → Hp → Prop} (h : te σ H fun x H' => ∃ k, x = .bl k ∧ R k H') : tTest te σ H R := h
theorem w_B {R : Bool → Hp → Prop} (h : te σ H fun x H' => ∃ k, x = .bl k ∧ R k H') : tB te σ H R := h
theorem w_bl {R : Bool → Prop} {b : Bool} (h : R b) : ∃ k, V.bl b = .bl k ∧ R k := ⟨b, rfl, h⟩
theorem w_int {R : Int → Prop} (h : R i) : ∃ k, V.int i = .int k ∧ R k := ⟨i, rfl, h⟩
theorem w_N {R : L2.St → Hp → Prop} {S : (L2.St → Hp → Prop) → Prop} (h : S R) : ∃ N : L2.St → Hp → Prop, (∀ σ' H', N σ' H' → R σ' H') ∧ S N := ⟨R, fun _ _ h => h, h⟩
theorem w_start {N : List Str} {vs : List V} (e : L2.start N vs = σ) (h : t D σ H) : t D (L2.start N vs) H := e ▸ h
theorem w_and {c d : TT} {R : Bool → Hp → Prop} (h : c σ H fun b H1 => if b = true then d σ H1 R else R false H1) : tAnd c d σ H R := h
theorem w_or {c d : TT} {R : Bool → Hp → Prop} (h : c σ H fun b H1 => if b = true then R true H1 else d σ H1 R) : tOr c d σ H R := h
theorem w_not {c : TT} {R : Bool → Hp → Prop} (h : c σ H fun b H1 => R (!b) H1) : tNot c σ H R := h
theorem w_andV (h : ta σ H fun x H1 => ∃ c, x = .bl c ∧ if c = true then tb σ H1 Q else Q (.bl false) H1) : tAndV ta tb σ H Q := h
theorem w_orV (h : ta σ H fun x H1 => ∃ c, x = .bl c ∧ if c = true then Q (.bl true) H1 else tb σ H1 Q) : tOrV ta tb σ H Q := h
theorem w_notV (h : ta σ H fun x H1 => ∃ c, x = .bl c ∧ Q (.bl (!c)) H1) : tNotV ta σ H Q := h
theorem w_ifE {c : TT} (h : c σ H fun b H1 => if b = true then ta σ H1 Q else tb σ H1 Q) : tIf c ta tb σ H Q := h
theorem w_nil {R : List V → Hp → Prop} (h : R [] H) : tNil σ H R := h
theorem w_cons {tr : TA} {R : List V → Hp → Prop} (h : ta σ H fun x H1 => tr σ H1 fun xs H2 => R (x :: xs) H2) : tCons ta tr σ H R := h
theorem w_cb {f : List V → Hp → VK → Prop} {tr : TA} (h : tr σ H fun vs H1 => f vs H1 Q) : tCB f tr σ H Q := h
theorem w_call {sp : Sp} {dvs : List V} {E : XK} {tr : TA} (h : tr σ H fun vs H1 => sp (vs ++ dvs) H1 Q E) : tCall sp dvs E tr σ H Q := h
/-- a new object, and the heap behind it as a letter -/
theorem w_new {o : HO} {R : Addr → Hp → Prop} (h : ∀ p H', H p = none → Ch [] H H' → H' p = some o → R p H') : ∀ p, H p = none → R p (upd H p o) := fun p hp => h p _ hp (Ch.new hp) upd_same
/-- the tuple, the list of these items, new -/
def NewT (xs : List V) (H : Hp) (Q : VK) : Prop := xs.length ≤ sizeLine ∧ ∀ p, H p = none → Q (.ref p) (upd H p (.tup xs))
def NewL (xs : List V) (H : Hp) (Q : VK) : Prop := xs.length ≤ sizeLine ∧ ∀ p, H p = none → Q (.ref p) (upd H p (.lst xs))
theorem w_tup {tr : TA} (h : tr σ H fun xs H1 => NewT xs H1 Q) : tTup tr σ H Q := h
theorem w_lst {tr : TA} (h : tr σ H fun xs H1 => NewL xs H1 Q) : tLst tr σ H Q := h
theorem w_newT (hl : xs.length ≤ sizeLine) (q : ∀ p H', H p = none → Ch [] H H' → H' p = some (.tup xs) → Q (.ref p) H') : NewT xs H Q := ⟨hl, w_new q⟩
theorem w_newL (hl : xs.length ≤ sizeLine) (q : ∀ p H', H p = none → Ch [] H H' → H' p = some (.lst xs) → Q (.ref p) H') : NewL xs H Q := ⟨hl, w_new q⟩
theorem ite_b {A B : Prop} {b : Bool} (h1 : b = true → A) (h2 : b = false → B) : if b = true then A else B := by
  cases b with
  | true =>
    rw [if_pos rfl]
    exact h1 rfl
  | false =>
    rw [if_neg Bool.false_ne_true]
    exact h2 rfl
theorem ite_d {A B P : Prop} [Decidable P] (h1 : P → A) (h2 : ¬ P → B) : if decide P = true then A else B := ite_b (fun e => h1 (of_decide_eq_true e)) fun e => h2 (of_decide_eq_false e)
theorem ite_nd {A B P : Prop} [Decidable P] (h1 : ¬ P → A) (h2 : P → B) : if (!decide P) = true then A else B := ite_b (fun e => h1 (by simpa using e)) fun e => h2 (by simpa using e)
theorem ite_t {A B : Prop} (h : A) : if true = true then A else B := by rw [if_pos rfl]; exact h
theorem ite_f {A B : Prop} (h : B) : if false = true then A else B := by rw [if_neg Bool.false_ne_true]; exact h
theorem ite_dt {A B P : Prop} [Decidable P] (p : P) (h : A) : if decide P = true then A else B := by rw [if_pos (decide_eq_true p)]; exact h
theorem ite_df {A B P : Prop} [Decidable P] (p : ¬ P) (h : B) : if decide P = true then A else B := by rw [if_neg (fun e => p (of_decide_eq_true e))]; exact h
end

/-! ### built-ins, by values, under names -/
def rLen (K : PySem.W.Frag) : List V → Hp → VK → Prop := fun xs H Q => ∃ p ys, xs = [.ref p] ∧ (SqL K H p ys ∨ SqT K H p ys) ∧ Q (.int ys.length) H
def rListOf (K : PySem.W.Frag) : List V → Hp → VK → Prop := fun xs H Q => ∃ p ys, xs = [.ref p] ∧ (SqL K H p ys ∨ SqT K H p ys) ∧ ∀ l, H l = none → Q (.ref l) (upd H l (.lst ys))
def rTupleOf (K : PySem.W.Frag) : List V → Hp → VK → Prop := fun xs H Q => ∃ p ys, xs = [.ref p] ∧ ((SqL K H p ys ∧ ∀ l, H l = none → Q (.ref l) (upd H l (.tup ys))) ∨ (SqT K H p ys ∧ Q (.ref p) H))
def rAbs : List V → Hp → VK → Prop := fun xs H Q => ∃ i, xs = [.int i] ∧ Q (.int (if i < 0 then -i else i)) H
def rMax2 : List V → Hp → VK → Prop := fun xs H Q => ∃ i j, xs = [.int i, .int j] ∧ Q (.int (if j > i then j else i)) H
def rMin2 : List V → Hp → VK → Prop := fun xs H Q => ∃ i j, xs = [.int i, .int j] ∧ Q (.int (if j < i then j else i)) H
def rInt1 : List V → Hp → VK → Prop := fun xs H Q => (∃ i, xs = [.int i] ∧ Q (.int i) H) ∨ ∃ k, xs = [.bl k] ∧ Q (.int (if k then 1 else 0)) H
section
variable {X : Cx}
theorem cb_len : CallR X (.builtin "len") (rLen X.K) := call_len_seq
theorem cb_list : CallR X (.type "list") (rListOf X.K) := call_list_of
theorem cb_tuple : CallR X (.type "tuple") (rTupleOf X.K) := call_tuple_of
theorem cb_abs : CallR X (.builtin "abs") rAbs := call_abs
theorem cb_max2 (hc : X.calm = true) : CallR X (.builtin "max") rMax2 := call_max2 hc
theorem cb_min2 (hc : X.calm = true) : CallR X (.builtin "min") rMin2 := call_min2 hc
theorem cb_int : CallR X (.type "int") rInt1 := call_int1
end
section
variable {X : Cx} {K : PySem.W.Frag} {tg : Expr}
theorem k_len (h : X.K = K) : CallR X (.builtin "len") (rLen K) := h ▸ cb_len
theorem k_list (h : X.K = K) : CallR X (.type "list") (rListOf K) := h ▸ cb_list
theorem k_tuple (h : X.K = K) : CallR X (.type "tuple") (rTupleOf K) := h ▸ cb_tuple
theorem k_all (h : X.K = K) (hc : X.calm = true) : CallR X (.builtin "all") (rAll K) := h ▸ cr_all hc
theorem k_any (h : X.K = K) (hc : X.calm = true) : CallR X (.builtin "any") (rAny K) := h ▸ cr_any hc
theorem k_sum (h : X.K = K) (hc : X.calm = true) : CallR X (.builtin "sum") (rSum K) := h ▸ cr_sum hc
theorem k_isi (h : X.K = K) : CallR X (.builtin "isinstance") (rIsi K) := h ▸ call_isi
theorem k_ixL (h : X.K = K) : IxR X (rIxL K) := h ▸ ix_list
theorem k_ixT (h : X.K = K) : IxR X (rIxT K) := h ▸ ix_tup
theorem k_slL (h : X.K = K) : SlR X (rSlL K) := h ▸ sl_list
theorem k_slT (h : X.K = K) : SlR X (rSlA K) := h ▸ sl_tupA
theorem k_catT (h : X.K = K) : OpR X (binaryOp .Add) (rCatA K) := h ▸ op_catA
theorem k_eqD (h : X.K = K) (hu : X.A.units + 64 < cLine) : OpR X (compareOp .Eq) (rEqD K) := h ▸ op_eqD hu
theorem k_neD (h : X.K = K) (hu : X.A.units + 64 < cLine) : OpR X (compareOp .NotEq) (rNeD K) := h ▸ op_neD hu
theorem k_inS (h : X.K = K) : OpR X (compareOp .In) (rIn K false) := h ▸ op_in_seq
theorem k_niS (h : X.K = K) : OpR X (compareOp .NotIn) (rIn K true) := h ▸ op_notIn_seq
theorem k_piL {l : Expr} {tl : TE} (h : X.K = K) (hl : PE X l tl) : PI X tg l (iList K tl) := h ▸ pi_list hl
theorem k_piT {l : Expr} {tl : TE} (h : X.K = K) (hl : PE X l tl) : PI X tg l (iTup K tl) := h ▸ pi_tup hl
theorem k_piE {e : Expr} {ta : TA} {p pos tpos : Pos} {elts : List Expr} {kk : Nat} (h : X.K = K) (hg : Gl X "enumerate") (hm : X.mg "enumerate" = none) (ha : PA X [e] ta) (hs : starEach [e] X.env = [(false, eval e X.env)] := by rfl) :
    PI X (.Tuple elts kk tpos) (.Call (.Name "enumerate" p) [e] [] pos) (iEnumT K ta) := h ▸ pi_enumT hg hm ha hs
theorem k_piV {e : Expr} {te : TE} {p pos : Pos} (h : X.K = K) (hg : Gl X "reversed") (hm : X.mg "reversed" = none) (he : PE X e te) (hs : starEach [e] X.env = (false, eval e X.env) :: starEach [] X.env := by rfl) : PI X tg (.Call (.Name "reversed" p) [e] [] pos) (RT.iRevA K te) := h ▸ RT.pi_revA hg hm he hs
theorem k_gtup {es : List Expr} {k : Nat} {t : TGs} {n : Nat} {pos : Pos} (h : X.K = K) (hc : X.calm = true) (hp : PGs X es t)
    (hn : (assignEach es X.env).length = n := by rfl) (hst : (assignEach es X.env).findIdx? (·.1) = none := by rfl) : PG X (.Tuple es k pos) (gTup K n t) := h ▸ pg_tup hc hp hn hst
end
section
variable {σ : L2.St} {H : Hp} {Q : VK} {K : PySem.W.Frag} {a p : Addr} {xs : List V} {v : V} {i j : Int} {k n : Nat} {lo hi : Option Int}
theorem w_lenL (h : SqL K H a xs) (q : Q (.int xs.length) H) : rLen K [.ref a] H Q := ⟨a, xs, rfl, .inl h, q⟩
theorem w_lenT (h : SqT K H a xs) (q : Q (.int xs.length) H) : rLen K [.ref a] H Q := ⟨a, xs, rfl, .inr h, q⟩
theorem w_lenLi {p : List Int} (h : H a = some (.lst (ivs p))) (q : Q (.int p.length) H) : rLen K [.ref a] H Q := w_lenL (.of h) (by rw [List.length_map]; exact q)
theorem w_lenTi {p : List Int} (h : SqT K H a (ivs p)) (q : Q (.int p.length) H) : rLen K [.ref a] H Q := w_lenT h (by rw [List.length_map]; exact q)
theorem w_listL (h : SqL K H a xs) (q : ∀ p H', H p = none → Ch [] H H' → H' p = some (.lst xs) → Q (.ref p) H') : rListOf K [.ref a] H Q := ⟨a, xs, rfl, .inl h, w_new q⟩
theorem w_listT (h : SqT K H a xs) (q : ∀ p H', H p = none → Ch [] H H' → H' p = some (.lst xs) → Q (.ref p) H') : rListOf K [.ref a] H Q := ⟨a, xs, rfl, .inr h, w_new q⟩
theorem w_tupleL (h : SqL K H a xs) (q : ∀ p H', H p = none → Ch [] H H' → H' p = some (.tup xs) → Q (.ref p) H') : rTupleOf K [.ref a] H Q := ⟨a, xs, rfl, .inl ⟨h, w_new q⟩⟩
theorem w_tupleT (h : SqT K H a xs) (q : Q (.ref a) H) : rTupleOf K [.ref a] H Q := ⟨a, xs, rfl, .inr ⟨h, q⟩⟩
theorem w_abs (q : Q (.int i.natAbs) H) : rAbs [.int i] H Q := ⟨i, rfl, by
  have e : (if i < 0 then -i else i) = (i.natAbs : Int) := by split <;> omega
  rw [e]
  exact q⟩
theorem w_max2 (q : Q (.int (if j > i then j else i)) H) : rMax2 [.int i, .int j] H Q := ⟨i, j, rfl, q⟩
theorem w_min2 (q : Q (.int (if j < i then j else i)) H) : rMin2 [.int i, .int j] H Q := ⟨i, j, rfl, q⟩
theorem w_int1 (q : Q (.int i) H) : rInt1 [.int i] H Q := .inl ⟨i, rfl, q⟩
theorem w_int1b {b : Bool} (q : Q (.int (if b then 1 else 0)) H) : rInt1 [.bl b] H Q := .inr ⟨b, rfl, q⟩
theorem w_gcd (q : Q (.int (Nat.gcd i.natAbs j.natAbs : Nat)) H) : rGcd [.int i, .int j] H Q := ⟨i, j, rfl, q⟩
/-! slices -/
theorem w_sl {r : V → Option Int → Option Int → Hp → VK → Prop} {te : TE} {tl th : TO} (h : te σ H fun x H1 => tl σ H1 fun l H2 => th σ H2 fun u H3 => r x l u H3 Q) : tSl r te tl th σ H Q := h
theorem w_nopart {R : Option Int → Hp → Prop} (h : R none H) : tNoPart σ H R := h
theorem w_part {t : TE} {R : Option Int → Hp → Prop} (h : t σ H fun x H1 => ∃ i, x = .int i ∧ R (some i) H1) : tPart t σ H R := h
theorem w_slL (h : SqL K H a xs) (q : ∀ p H', H p = none → Ch [] H H' → H' p = some (.lst (cutV xs lo hi)) → Q (.ref p) H') : rSlL K (.ref a) lo hi H Q := ⟨a, xs, rfl, h, w_new q⟩
theorem cutV_whole {xs : List V} {lo hi : Option Int} (h : HT.sIx xs.length 0 lo = 0 ∧ HT.sIx xs.length xs.length hi = xs.length) : cutV xs lo hi = xs := by
  unfold cutV
  rw [h.1, h.2, List.drop_zero, Nat.sub_zero, List.take_length]
theorem w_slT (h : SqT K H a xs) (q : ∀ p H', Ch [] H H' → SqT K H' p (cutV xs lo hi) → Q (.ref p) H') : rSlA K (.ref a) lo hi H Q :=
  ⟨a, xs, rfl, h, fun hw => q a H .refl (by rw [cutV_whole hw]; exact h), fun _ p hp => q p _ (Ch.new hp) (.of upd_same)⟩
/-! targets -/
variable {N : L2.St → Hp → Prop}
theorem w_gname (h : N (σ.set n (some v)) H) : gName n v σ H N := h
theorem w_gsub {to ti : TE} {t : TSet} (h : to σ H fun o H1 => ti σ H1 fun i H2 => t o i v H2 fun H3 => N σ H3) : gSub to ti t v σ H N := h
theorem w_setL {R : Hp → Prop} (h : H a = some (.lst xs)) (hk : i = (k : Int)) (hj : k < xs.length) (q : ∀ H', Ch [a] H H' → H' a = some (.lst (xs.set k v)) → R H') : rSetL (.ref a) (.int i) v H R := by
  subst hk
  refine ⟨a, xs, k, k, rfl, rfl, h, ?_, q _ (Ch.set h) upd_same⟩
  unfold ixN
  rw [if_pos (by omega), if_pos (by omega)]
  rfl
theorem w_gtup {t : TGs} (h : SqT K H a xs) (hl : xs.length = n) (q : t xs σ H N) : gTup K n t (.ref a) σ H N := ⟨a, xs, rfl, h, hl, q⟩
theorem w_gcons {g : TG} {t : TGs} (h : g v σ H fun σ' H' => t xs σ' H' N) : gCons g t (v :: xs) σ H N := ⟨v, xs, rfl, h⟩
theorem w_gnil (h : N σ H) : gNil [] σ H N := ⟨rfl, h⟩
/-! list.append -/
theorem w_bm {T : String} {r : V → List V → Hp → VK → Prop} {to : TE} {t : TA} (h : to σ H fun x H1 => tyV K T x H1 ∧ t σ H1 fun xs H2 => r x xs H2 Q) : tBM K T r to t σ H Q := h
theorem w_append (h : H a = some (.lst xs)) (hl : xs.length < sizeLine) (q : ∀ H', Ch [a] H H' → H' a = some (.lst (xs ++ [v])) → Q .non H') : rAppend (.ref a) [v] H Q := ⟨a, xs, v, rfl, rfl, h, hl, q _ (Ch.set h) upd_same⟩
theorem w_cat {b : Addr} {ys : List V} (h : H a = some (.lst xs)) (h2 : H b = some (.lst ys)) (hl : xs.length + ys.length ≤ sizeLine) (q : ∀ p H', H p = none → Ch [] H H' → H' p = some (.lst (xs ++ ys)) → Q (.ref p) H') : rCat (.ref a) (.ref b) H Q :=
  ⟨a, b, xs, ys, rfl, rfl, h, h2, hl, w_new q⟩
end

/-! ### loops and comprehensions -/
def ForG (J : It) (g : TG) (tb : TS) (N : L2.St → Hp → Prop) (R : VK) (σ : L2.St) (H : Hp) : Prop := ∃ W : Nat → Nat → L2.St → Hp → Prop, (∃ m, W 0 m σ H) ∧ ∀ i m σ H, W i m σ H →
  (J.stop i H ∧ N σ H) ∨ (J.go i H ∧ ∃ M : L2.St → Hp → Prop, (∀ σ' H', M σ' H' → ∃ m', m' < m ∧ W (i + 1) m' σ' H') ∧ ∀ x H', J.yld i H x H' → g x σ H' fun σ2 H2 => tb ⟨M, R, N, M⟩ σ2 H2)
def LcG (J : It) (g : TG) (tt : TT) (te : TE) (vs : List Nat) (σ : L2.St) (H1 : Hp) (Q : VK) : Prop := ∀ D, H1 D = none → ∃ W : Nat → Nat → Hp → Prop, (∃ m, W 0 m (upd H1 D (.lst []))) ∧ ∀ i m H, W i m H →
  (J.stop i H ∧ Q (.ref D) H) ∨ (J.go i H ∧ ∃ Nx : Hp → Prop, (∀ H', Nx H' → ∃ m', m' < m ∧ W (i + 1) m' H') ∧ ∀ x H', J.yld i H x H' → g x (wipe σ vs) H' fun σ2 H2 => wipe σ2 vs = wipe σ vs ∧ tt σ2 H2 fun b H3 =>
    if b = true then te σ2 H3 fun y H4 => ∃ acc, H4 D = some (.lst acc) ∧ acc.length < sizeLine ∧ Nx (upd H4 D (.lst (acc ++ [y]))) else Nx H3)
section
variable {σ : L2.St} {H : Hp} {Q : VK} {K : PySem.W.Frag} {a p : Addr} {xs : List V} {v : V} {i j lo : Int} {n : Nat} {N B C : L2.St → Hp → Prop} {R : VK} {g : TG} {tb : TS} {wi : TI} {tt : TT} {te : TE} {vs : List Nat} {J : It}
theorem w_for (h : wi σ H fun J H1 => ForG J g tb N R σ H1) : tFor wi g tb ⟨N, R, B, C⟩ σ H := h
theorem w_lc (h : wi σ H fun J H1 => LcG J g tt te vs σ H1 Q) : tLc wi g tt te vs σ H Q := h
theorem w_while {c : TT} (W : Nat → L2.St → Hp → Prop) (m : Nat) (w0 : W m σ H) (turn : ∀ m σ H, W m σ H → c σ H fun b' H1 => if b' = true then ∃ M : L2.St → Hp → Prop, (∀ σ' H', M σ' H' → ∃ m', m' < m ∧ W m' σ' H') ∧ tb ⟨M, R, N, M⟩ σ H1 else N σ H1) : tWhile c tb ⟨N, R, B, C⟩ σ H :=
  ⟨W, ⟨m, w0⟩, turn⟩
theorem w_iL {tl : TE} {S : It → Hp → Prop} (h : tl σ H fun x H1 => ∃ a, x = .ref a ∧ (∃ xs, SqL K H1 a xs) ∧ S (Itl K a) H1) : iList K tl σ H S := h
theorem w_iT {tl : TE} {S : It → Hp → Prop} (h : tl σ H fun x H1 => ∃ a, x = .ref a ∧ (∃ xs, SqT K H1 a xs) ∧ S (Itt K a) H1) : iTup K tl σ H S := h
theorem w_iLr {S : Addr → Prop} (h : SqL K H a xs) (q : S a) : ∃ a', V.ref a = .ref a' ∧ (∃ xs, SqL K H a' xs) ∧ S a' := ⟨a, rfl, ⟨xs, h⟩, q⟩
theorem w_iTr {S : Addr → Prop} (h : SqT K H a xs) (q : S a) : ∃ a', V.ref a = .ref a' ∧ (∃ xs, SqT K H a' xs) ∧ S a' := ⟨a, rfl, ⟨xs, h⟩, q⟩
theorem w_iR1 {tr : TA} {S : It → Hp → Prop} (h : tr σ H fun vs H1 => ∃ j : Int, vs = [.int j] ∧ -(2 ^ 62) ≤ j ∧ j < 2 ^ 62 ∧ S (Itr 0 j.toNat) H1) : iRng1 tr σ H S := h
theorem w_iR1r {S : Int → Prop} (h1 : -(2 ^ 62) ≤ j) (h2 : j < 2 ^ 62) (q : S j) : ∃ j' : Int, [V.int j] = [.int j'] ∧ -(2 ^ 62) ≤ j' ∧ j' < 2 ^ 62 ∧ S j' := ⟨j, rfl, h1, h2, q⟩
theorem w_iR2 {tr : TA} {S : It → Hp → Prop} (h : tr σ H fun vs H1 => ∃ i j : Int, vs = [.int i, .int j] ∧ (-(2 ^ 62) ≤ i ∧ i < 2 ^ 62 ∧ -(2 ^ 62) ≤ j ∧ j < 2 ^ 62) ∧ S (Itr i (j - i).toNat) H1) : iRng2 tr σ H S := h
theorem w_iR2r {S : Int → Int → Prop} (h : -(2 ^ 62) ≤ i ∧ i < 2 ^ 62 ∧ -(2 ^ 62) ≤ j ∧ j < 2 ^ 62) (q : S i j) : ∃ i' j' : Int, [V.int i, V.int j] = [.int i', .int j'] ∧ (-(2 ^ 62) ≤ i' ∧ i' < 2 ^ 62 ∧ -(2 ^ 62) ≤ j' ∧ j' < 2 ^ 62) ∧ S i' j' := ⟨i, j, rfl, h, q⟩
theorem w_iE {tr : TA} {S : It → Hp → Prop} (h : tr σ H fun vs H1 => ∃ a xs, vs = [.ref a] ∧ SqT K H1 a xs ∧ S (IteT K a xs.length) H1) : iEnumT K tr σ H S := h
theorem w_iEr {S : Addr → List V → Prop} (h : SqT K H a xs) (q : S a xs) : ∃ a' xs', [V.ref a] = [.ref a'] ∧ SqT K H a' xs' ∧ S a' xs' := ⟨a, xs, rfl, h, q⟩
theorem w_iV {S : It → Hp → Prop} {tl : TE} (h : tl σ H fun v H1 => ∃ (a : Addr) (xs : List V), v = .ref a ∧ ((SqL K H1 a xs ∧ S (Itv K a xs.length) H1) ∨ (SqT K H1 a xs ∧ S (RT.ItvT K a xs.length) H1))) : RT.iRevA K tl σ H S := h
theorem w_iVr {S1 S2 : Addr → List V → Prop} (h : SqT K H a xs) (q : S2 a xs) : ∃ (a' : Addr) (xs' : List V), V.ref a = .ref a' ∧ ((SqL K H a' xs' ∧ S1 a' xs') ∨ (SqT K H a' xs' ∧ S2 a' xs')) := ⟨a, xs, rfl, .inr ⟨h, q⟩⟩
/-- a for, by what it walks -/
theorem for_w {G : Hp → Prop} {Y : Nat → Hp → V → Hp → Prop} (w : Walk J n G Y) (Pv : Nat → L2.St → Hp → Prop) (h0 : Pv 0 σ H) (hG : ∀ i σ H, i ≤ n → Pv i σ H → G H)
    (hs : ∀ i x σ H H', i < n → Pv i σ H → Y i H x H' → g x σ H' fun σ2 H2 => tb ⟨Pv (i + 1), R, N, Pv (i + 1)⟩ σ2 H2) (hd : ∀ σ H, Pv n σ H → N σ H) : ForG J g tb N R σ H :=
  for_it (D := ⟨N, R, fun _ _ => False, fun _ _ => False⟩) w Pv h0 hG hs hd
theorem for_R (Pv : Nat → L2.St → Hp → Prop) (h0 : Pv 0 σ H) (hs : ∀ i σ H, i < n → Pv i σ H → g (.int (lo + (i : Int))) σ H fun σ2 H2 => tb ⟨Pv (i + 1), R, N, Pv (i + 1)⟩ σ2 H2) (hd : ∀ σ H, Pv n σ H → N σ H) : ForG (Itr lo n) g tb N R σ H :=
  for_range (D := ⟨N, R, fun _ _ => False, fun _ _ => False⟩) Pv h0 hs hd
theorem for_T {xs : List V} (Pv : Nat → L2.St → Hp → Prop) (h0 : Pv 0 σ H) (hl : ∀ i σ H, i ≤ xs.length → Pv i σ H → SqT K H a xs)
    (hs : ∀ i x σ H, xs[i]? = some x → Pv i σ H → g x σ H fun σ2 H2 => tb ⟨Pv (i + 1), R, N, Pv (i + 1)⟩ σ2 H2) (hd : ∀ σ H, Pv xs.length σ H → N σ H) : ForG (Itt K a) g tb N R σ H :=
  for_tup (D := ⟨N, R, fun _ _ => False, fun _ _ => False⟩) Pv h0 hl hs hd
/-- over a tuple of ints -/
theorem for_Ti {ns : List Int} (Pv : Nat → L2.St → Hp → Prop) (h0 : Pv 0 σ H) (hl : ∀ i σ H, i ≤ ns.length → Pv i σ H → SqT K H a (ivs ns))
    (hs : ∀ i x σ H, ns[i]? = some x → Pv i σ H → g (.int x) σ H fun σ2 H2 => tb ⟨Pv (i + 1), R, N, Pv (i + 1)⟩ σ2 H2) (hd : ∀ σ H, Pv ns.length σ H → N σ H) : ForG (Itt K a) g tb N R σ H :=
  for_T (xs := ivs ns) Pv h0 (fun i σ H hi => hl i σ H (by rw [List.length_map] at hi; exact hi)) (fun i x σ H hx hp => by
    obtain ⟨z, hz, rfl⟩ := ivs_get_inv hx
    exact hs i z σ H hz hp) (fun σ H hp => hd σ H (by rw [List.length_map] at hp; exact hp))
/-- for i, x in enumerate(tuple of ints): each turn lays a new pair -/
theorem for_Ei {ns : List Int} (Pv : Nat → L2.St → Hp → Prop) (h0 : Pv 0 σ H) (hl : ∀ i σ H, i ≤ ns.length → Pv i σ H → SqT K H a (ivs ns))
    (hs : ∀ i x σ H T H', ns[i]? = some x → Pv i σ H → H T = none → Ch [] H H' → H' T = some (.tup [.int (i : Nat), .int x]) → g (.ref T) σ H' fun σ2 H2 => tb ⟨Pv (i + 1), R, N, Pv (i + 1)⟩ σ2 H2) (hd : ∀ σ H, Pv ns.length σ H → N σ H) : ForG (IteT K a (ivs ns).length) g tb N R σ H :=
  for_it (D := ⟨N, R, fun _ _ => False, fun _ _ => False⟩) (walk_enumT (xs := ivs ns)) Pv h0 (fun i σ H hi => hl i σ H (by rw [List.length_map] at hi; exact hi)) (fun i x σ H H' hi hp hy => by
    obtain ⟨T, x1, x2, rfl, nT, rfl, e1, e2⟩ := hy
    obtain ⟨z, hz, rfl⟩ := ivs_get_inv e2
    cases e1
    exact hs i z σ H T _ hz hp nT (Ch.new nT) upd_same) (fun σ H hp => hd σ H (by rw [List.length_map] at hp; exact hp))
/-- for x in reversed(tuple of ints) -/
theorem for_Vi {ns : List Int} (Pv : Nat → L2.St → Hp → Prop) (h0 : Pv 0 σ H) (hl : ∀ i σ H, Pv i σ H → SqT K H a (ivs ns))
    (hs : ∀ i x σ H, i < ns.length → ns[ns.length - 1 - i]? = some x → Pv i σ H → g (.int x) σ H fun σ2 H2 => tb ⟨Pv (i + 1), R, N, Pv (i + 1)⟩ σ2 H2) (hd : ∀ σ H, Pv ns.length σ H → N σ H) : ForG (RT.ItvT K a (ivs ns).length) g tb N R σ H :=
  RT.for_ItvT (D := ⟨N, R, fun _ _ => False, fun _ _ => False⟩) (xs := ivs ns) Pv h0 hl (fun i x σ H hi hx hp => by
    rw [List.length_map] at hi hx
    obtain ⟨z, hz, rfl⟩ := ivs_get_inv hx
    exact hs i z σ H hi hz hp) (fun σ H hp => hd σ H (by rw [List.length_map] at hp; exact hp))

theorem wipe1 {σ : L2.St} {i : Nat} {o : Option V} : wipe ((wipe σ [i]).set i o) [i] = wipe σ [i] := by
  show ((σ.set i none).set i o).set i none = σ.set i none
  rw [List.set_set, List.set_set]
/-- [e for x in ..], no test: what each turn gives -/
theorem lc_w {G : Hp → Prop} {Y : Nat → Hp → V → Hp → Prop} {i : Nat} (w : Walk J n G Y) (f : Nat → V) (hv : vs = [i]) (hG : ∀ H', Ch [] H H' → G H') (hn : n < 100000)
    (hs : ∀ k x H1 H2, k < n → Ch [] H H1 → Y k H1 x H2 → ∀ S : VK, (∀ H3, Ch [] H1 H3 → S (f k) H3) → te ((wipe σ [i]).set i (some x)) H2 S)
    (hd : ∀ D H', H D = none → Ch [] H H' → H' D = some (.lst ((List.range n).map f)) → Q (.ref D) H') : LcG J (gName i) tYes te vs σ H Q := by
  subst hv
  intro D hD
  refine lc_it w (fun k H' => Ch [] H H' ∧ H' D = some (.lst ((List.range k).map f))) ⟨Ch.new hD, by rw [upd_same]; rfl⟩ (fun k H' hk hp => hG H' hp.1) ?_ (fun H' hp => hd D H' hD hp.1 hp.2)
  rintro k x H1 H2 hk ⟨c1, e1⟩ hy
  refine ⟨wipe1, ?_⟩
  show te _ _ _
  refine hs k x H1 H2 hk c1 hy _ fun H3 c3 => ?_
  refine ⟨_, c3.at0 e1, sz_lt (by rw [List.length_map, List.length_range]; omega), ?_, ?_⟩
  · exact Ch.cut (c1.trans c3) hD (Ch.set (c3.at0 e1))
  · rw [upd_same, List.range_succ, List.map_append]
    rfl
theorem lc_R {i : Nat} (f : Nat → V) (hv : vs = [i]) (hn : n < 100000)
    (hs : ∀ k H1, k < n → Ch [] H H1 → ∀ S : VK, (∀ H3, Ch [] H1 H3 → S (f k) H3) → te ((wipe σ [i]).set i (some (.int (lo + (k : Int))))) H1 S)
    (hd : ∀ D H', H D = none → Ch [] H H' → H' D = some (.lst ((List.range n).map f)) → Q (.ref D) H') : LcG (Itr lo n) (gName i) tYes te vs σ H Q :=
  lc_w (walk_range (lo := lo) (n := n)) f hv (fun _ _ => trivial) hn (fun k x H1 H2 hk c y S q => by
    obtain ⟨e1, e2⟩ := y
    rw [e1, e2]
    exact hs k H1 hk c S q) hd
theorem range_map {ns : List Int} {g : Int → V} : (List.range ns.length).map (fun k => g (ns.getD k 0)) = ns.map g := by
  apply List.ext_getElem?
  intro k
  rw [List.getElem?_map, List.getElem?_map]
  by_cases h : k < ns.length
  · rw [List.getElem?_range h, List.getElem?_eq_getElem h]
    simp [List.getD, h]
  · rw [List.getElem?_eq_none (by rw [List.length_range]; omega), List.getElem?_eq_none (by omega)]
    rfl
/-- [e for x in a tuple of ints] -/
theorem lc_Ti {i : Nat} {ns : List Int} (f : Int → V) (hv : vs = [i]) (ht : SqT K H a (ivs ns)) (hn : ns.length < 100000)
    (hs : ∀ x H1, x ∈ ns → Ch [] H H1 → ∀ S : VK, (∀ H3, Ch [] H1 H3 → S (f x) H3) → te ((wipe σ [i]).set i (some (.int x))) H1 S)
    (hd : ∀ D H', H D = none → Ch [] H H' → H' D = some (.lst (ns.map f)) → Q (.ref D) H') : LcG (Itt K a) (gName i) tYes te vs σ H Q := by
  have w : Walk (Itt K a) ns.length (fun H => SqT K H a (ivs ns)) (YAt (ivs ns)) := by
    have q := walk_tup (K := K) (a := a) (xs := ivs ns)
    rw [List.length_map] at q
    exact q
  refine lc_w w (fun k => f (ns.getD k 0)) hv (fun _ c => c.sqT ht) hn (fun k x H1 H2 hk c y S q => ?_) (fun D H' h1 h2 h3 => hd D H' h1 h2 (by rw [h3, range_map]))
  obtain ⟨rfl, hx⟩ := y
  obtain ⟨z, hz, rfl⟩ := ivs_get_inv hx
  refine hs z _ (List.mem_of_getElem? hz) c S fun H3 c3 => ?_
  have e : ns.getD k 0 = z := by
    simp [List.getD, hz]
  have := q H3 c3
  simp only [e] at this
  exact this
end

section
variable {σ : L2.St} {H : Hp} {i j lo c : Int} {n : Nat} {N : L2.St → Hp → Prop} {R : VK} {g : TG} {tb : TS}
theorem w_iR3 {tr : TA} {S : It → Hp → Prop} (h : tr σ H fun vs H1 => ∃ (i j c : Int) (n : Nat), vs = [.int i, .int j, .int c] ∧ RgC i j c n ∧ S (Itc i c n) H1) : iRng3 tr σ H S := h
theorem w_iR3r {S : Int → Int → Nat → Prop} (h : RgC i j c n) (q : S i c n) : ∃ (i' j' c' : Int) (n' : Nat), [V.int i, V.int j, V.int c] = [.int i', .int j', .int c'] ∧ RgC i' j' c' n' ∧ S i' c' n' := ⟨i, j, c, n, rfl, h, q⟩
theorem for_C (Pv : Nat → L2.St → Hp → Prop) (h0 : Pv 0 σ H) (hs : ∀ i σ H, i < n → Pv i σ H → g (.int (lo + (i : Nat) * c)) σ H fun σ2 H2 => tb ⟨Pv (i + 1), R, N, Pv (i + 1)⟩ σ2 H2) (hd : ∀ σ H, Pv n σ H → N σ H) : ForG (Itc lo c n) g tb N R σ H :=
  for_rangeC (D := ⟨N, R, fun _ _ => False, fun _ _ => False⟩) Pv h0 hs hd
end
section
variable {X : Cx} {C : Addr} {bmB : List Value} {B newId initId : String}
/-- X(), an own exception class without own __init__ -/
theorem pmk_own0 {x : Str} {p pos : Pos} (F : ExcBaseFacts B newId initId bmB) (q : PySem.W.excIn X.K C bmB newId = true) (gC : X.mg x = some (.ref C)) (kC : PySem.W.keepIn X.K (.ref C) = true) (r : Raises X (.ref C)) (hg : Gl X x)
    (hdb : (x == ("__debug__" : Str)) = false := by decide) : PMk X (.Call (.Name x p) [] [] pos) (fun _ H Q => Q (.ref C) none H) := by
  intro pins s σ H Q I h
  refine wpAny_Call_Name_kw (ld_glob I hg gC ?_ hdb)
  refine PySem.W.callWith_K0 I.kIn kC ?_
  show wpAny _ _ (call (.ref C) []) _ _ _
  obtain ⟨bm, N, nm, qn, bs, hdct, sn, sub, ab, col, dd, k0, k1, k2, k3, k5, mN, hC, hN, hni, T⟩ := exc_obj I.kIn q
  refine wpAny_call_exc_subT F T hC hN hni (fun h' e hm => ?_) (Nat.zero_le _)
  exact mk_of I hm r h (I.hok.gone hm.new)
end
/-- a def with one default, called with all its arguments -/
structure DefD (K : PySem.W.Frag) (mg : Str → Option Value) (x : Str) (st : Stmt) (ps : List Str) (f : Addr) (fd : FuncData) : Prop where
  fn : ∃ dvs kws, FunD K x x (defArgs st) (defBody st) (defScope st) dvs kws f fd
  mgf : mg x = some (.ref f)
  bi : Binds K fd ps []
section
variable {P : Program} {w : World} {K : PySem.W.Frag} {mg : Str → Option Value} {base : Heap}
theorem cal_ofD {x : Str} {st : Stmt} {f : Addr} {fd : FuncData} {N ps : List Str} {k : Nat} {sp : Sp} (F : DefD K mg x st ps f fd) (S : FnScope N ps (defScope st)) (len : ∀ vs H Q E, sp vs H Q E → vs.length = ps.length)
    (hbody : ∀ (cdv : Value) (A : Around) (outer : List Env) (s : Shared) (H : Hp) (vs : List V) (Q : VK) (E : XK), Room k (A.deeper (envOfC x (defScope st) s.heap.objs.size f cdv)) → sp vs H Q E →
      ∃ t, PSs (cxOf (L2.CX P w) P w K mg base N x (defScope st) f cdv A outer s H E).nox (defBody st) t ∧ t { nx := fun _ H' => Q .non H', rt := Q } (start N vs) H) : Cal P w K mg base (k + 1) x sp := by
  obtain ⟨dvs, kws, F0⟩ := F.fn
  exact ⟨f, fd, ps, F0.ok S len fun cdv A outer s H vs Q E hr h => let ⟨t, h1, h2⟩ := hbody cdv A outer s H vs Q E hr h; ⟨t, h1.nox, h2⟩, F.mgf, F0.kp, F.bi⟩
end

/-- an own exception class over ValueError, without own __init__ -/
structure ExcF (K : PySem.W.Frag) (mg : Str → Option Value) (x : Str) (C : Addr) : Prop where
  xin : PySem.W.excIn K C [.type "ValueError", .type "Exception", .type "BaseException", .type "object"] "ValueError.__new__" = true
  gl : mg x = some (.ref C)
  kp : PySem.W.keepIn K (.ref C) = true
  sub : PySem.W.subIn K (.ref C) (.type "BaseException") = some true
  ty : PySem.W.typeIn K (.ref C) = some (.type "type")

/-! ### truth of a list -/
def tTru (K : PySem.W.Frag) (ta : TE) : TT := fun σ H Q => ta σ H fun x H' => ∃ k, TruV K x H' k ∧ Q k H'
section
variable {X : Cx} {K : PySem.W.Frag}
theorem k_tru {a : Expr} {ta : TE} (h : X.K = K) (ha : PE X a ta) (he : ∀ whole, isTrue a X.env whole = (do let v ← whole; standAt a.pos; holding [v] (truthy v)) := by intro _; rfl) : PT X a (tTru K ta) := h ▸ pt_truth ha he
variable {σ : L2.St} {H : Hp} {ta : TE} {a : Addr} {xs : List V}
theorem w_tru {R : Bool → Hp → Prop} (h : ta σ H fun x H' => ∃ k, TruV K x H' k ∧ R k H') : tTru K ta σ H R := h
theorem w_truL {R : Bool → Prop} (h : SqL K H a xs) (q : R (!xs.isEmpty)) : ∃ k, TruV K (.ref a) H k ∧ R k := ⟨_, .inl ⟨xs, h, rfl⟩, q⟩
theorem w_truT {R : Bool → Prop} (h : SqT K H a xs) (q : R (!xs.isEmpty)) : ∃ k, TruV K (.ref a) H k ∧ R k := ⟨_, .inr (.inl ⟨xs, h, rfl⟩), q⟩
end

theorem w_bits {σ : L2.St} {H : Hp} {to : TE} {Q : VK} (h : to σ H fun x H1 => ∃ i, x = .int i ∧ Q (.int (Builtin.Int.intBits i : Nat)) H1) : tBits to σ H Q := h
end My
/-! what the end needs of the written part: defs, defaults, classes -/
namespace My
open PySem PySem.Spec PyProof.Rows L2
section
variable {K : PySem.W.Frag} {h : Heap} {mg : Str → Option Value}
theorem def_mk {x : Str} {st : Stmt} {ps : List Str} {f : Addr} {oc : Value} {od an : Option Addr} {osl : Array (Option Value)} {kV doc pm cdv ct : Value} (X : K.In h) (G : h.Ns mainGlobals mg)
    (a : PySem.W.nsIn K mainGlobals x = some (some (.ref f))) (l : K.lookup f = some ⟨oc, od, .func (PySem.W.fnOf x x (defArgs st) (defBody st) (defScope st) .none kV doc pm an cdv ct), osl⟩)
    (c : PySem.W.codeIn K cdv x = true) (k : PySem.W.keepIn K (.ref f) = true)
    (b : ∀ (kV doc pm : Value) (an : Option Addr) (cdv ct : Value) (us : List Value), us.length = ps.length → bindArgs (PySem.W.fnOf x x (defArgs st) (defBody st) (defScope st) .none kV doc pm an cdv ct) ⟨us, []⟩ = pure (ps.zip us)) :
    DefF K mg x st ps f (PySem.W.fnOf x x (defArgs st) (defBody st) (defScope st) .none kV doc pm an cdv ct) :=
  ⟨fun_mk l c k, PySem.W.mg_of X G a, (fun_mk (st := st) l c k).binds b⟩
theorem defd_mk {x : Str} {st : Stmt} {ps : List Str} {dvs : List V} {f T : Addr} {oc : Value} {od an td : Option Addr} {osl tsl : Array (Option Value)} {kV doc pm cdv ct tc : Value} {its : List Value} {n : Nat} (X : K.In h) (G : h.Ns mainGlobals mg)
    (a : PySem.W.nsIn K mainGlobals x = some (some (.ref f))) (l : K.lookup f = some ⟨oc, od, .func (PySem.W.fnOf x x (defArgs st) (defBody st) (defScope st) (.ref T) kV doc pm an cdv ct), osl⟩)
    (c : PySem.W.codeIn K cdv x = true) (k : PySem.W.keepIn K (.ref f) = true) (t : K.lookup T = some ⟨tc, td, .seq its.toArray n, tsl⟩) (d : Vals dvs its) (d0 : dvs ≠ [])
    (b : ∀ (T : Addr) (kV doc pm : Value) (an : Option Addr) (cdv ct : Value) (us its : List Value), us.length = ps.length → its.length = dvs.length →
      ∃ k, bindArgs (PySem.W.fnOf x x (defArgs st) (defBody st) (defScope st) (.ref T) kV doc pm an cdv ct) ⟨us, []⟩ = seqItems? (.ref T) >>= k ∧ k (some its.toArray) = pure (ps.zip (us ++ its.drop dvs.length))) :
    DefD K mg x st ps f (PySem.W.fnOf x x (defArgs st) (defBody st) (defScope st) (.ref T) kV doc pm an cdv ct) := by
  have F : FunD K x x (defArgs st) (defBody st) (defScope st) dvs [] f (PySem.W.fnOf x x (defArgs st) (defBody st) (defScope st) (.ref T) kV doc pm an cdv ct) :=
    ⟨⟨_, _, _, _, _, _, _, _, _, _, rfl, l, c, .inr ⟨d0, T, _, its, n, rfl, t, rfl, d⟩, .inl rfl⟩, k⟩
  refine ⟨⟨_, _, F⟩, PySem.W.mg_of X G a, ?_⟩
  obtain ⟨ds, v, B⟩ := F.binds1 ps.length dvs.length d0 (by rw [Nat.sub_self]; rfl) b
  rw [List.drop_length] at v
  cases v
  exact B
theorem exc_mk {x : Str} {C : Addr} (X : K.In h) (G : h.Ns mainGlobals mg) (a : PySem.W.nsIn K mainGlobals x = some (some (.ref C))) (i : PySem.W.excIn K C [.type "ValueError", .type "Exception", .type "BaseException", .type "object"] "ValueError.__new__" = true)
    (k : PySem.W.keepIn K (.ref C) = true) (s : PySem.W.subIn K (.ref C) (.type "BaseException") = some true) (t : PySem.W.typeIn K (.ref C) = some (.type "type")) : ExcF K mg x C := ⟨i, PySem.W.mg_of X G a, k, s, t⟩
end
end My
namespace My
open PySem PySem.Spec PyProof.Rows L2
theorem cx_no {P : Program} {w : World} {st : List Env} {H : Hp} {s s' : Shared} {e : Value} (h : L2.CX P w st H s (fun _ _ _ => False) e s') : False := by
  obtain ⟨_, _, _, _, _, _, _, _, _, _, _, _, z⟩ := h
  exact z
end My
/-! rows as plain lists of ints -/
namespace My
def coef (p : List Int) (i : Nat) : Int := p.getD i 0
theorem coef_nil (i : Nat) : coef [] i = 0 := by simp [coef]
theorem coef_cons_zero (a : Int) (p : List Int) : coef (a :: p) 0 = a := by simp [coef]
theorem coef_cons_succ (a : Int) (p : List Int) (i : Nat) : coef (a :: p) (i + 1) = coef p i := by simp [coef]
theorem coef_ge {p : List Int} {i : Nat} (h : p.length ≤ i) : coef p i = 0 := by
  simp [coef, List.getD, List.getElem?_eq_none h]
theorem coef_lt {p : List Int} {i : Nat} (h : i < p.length) : coef p i = p[i] := by
  simp [coef, h]
theorem coef_get {p : List Int} {i : Nat} {x : Int} (h : p[i]? = some x) : coef p i = x := by
  simp [coef, List.getD, h]
theorem get_coef {p : List Int} {i : Nat} (h : i < p.length) : p[i]? = some (coef p i) := by
  rw [List.getElem?_eq_getElem h, coef_lt h]
theorem coef_mem {p : List Int} {i : Nat} (h : i < p.length) : coef p i ∈ p := by
  rw [coef_lt h]
  exact List.getElem_mem h
theorem coef_take (p : List Int) (n i : Nat) : coef (p.take n) i = if i < n then coef p i else 0 := by
  unfold coef
  simp only [List.getD_eq_getElem?_getD, List.getElem?_take]
  split <;> simp
theorem coef_append (p q : List Int) (i : Nat) : coef (p ++ q) i = if i < p.length then coef p i else coef q (i - p.length) := by
  unfold coef
  simp only [List.getD_eq_getElem?_getD]
  split
  · rename_i h
    rw [List.getElem?_append_left h]
  · rename_i h
    rw [List.getElem?_append_right (by omega)]
theorem coef_set {p : List Int} {j : Nat} (hj : j < p.length) (v : Int) (i : Nat) : coef (p.set j v) i = if i = j then v else coef p i := by
  unfold coef
  simp only [List.getD_eq_getElem?_getD, List.getElem?_set]
  by_cases h : j = i
  · subst h
    simp [hj]
  · rw [if_neg h, if_neg (fun e => h e.symm)]
theorem coef_map {f : Int → Int} (h0 : f 0 = 0) (p : List Int) (i : Nat) : coef (p.map f) i = f (coef p i) := by
  unfold coef
  simp only [List.getD_eq_getElem?_getD, List.getElem?_map]
  cases p[i]? with
  | none => simp [h0]
  | some x => simp
theorem coef_rep (n i : Nat) : coef (List.replicate n 0) i = 0 := by
  unfold coef
  simp only [List.getD_eq_getElem?_getD, List.getElem?_replicate]
  split <;> simp
theorem coef_range (f : Nat → Int) (n i : Nat) : coef ((List.range n).map f) i = if i < n then f i else 0 := by
  unfold coef
  simp only [List.getD_eq_getElem?_getD, List.getElem?_map]
  by_cases h : i < n
  · rw [if_pos h, List.getElem?_range h]
    rfl
  · rw [if_neg h, List.getElem?_eq_none (by rw [List.length_range]; omega)]
    rfl

/-! ### rows -/
def IsRow (p : List Int) : Prop := p.getLast? ≠ some 0
theorem isRow_nil : IsRow [] := by simp [IsRow]
theorem isRow_iff {p : List Int} : IsRow p ↔ (p = [] ∨ coef p (p.length - 1) ≠ 0) := by
  unfold IsRow coef
  rw [List.getLast?_eq_getElem?]
  by_cases h : p = []
  · subst h
    simp
  · have hl : p.length - 1 < p.length := by
      have := List.length_pos_iff.mpr h
      omega
    simp [List.getD, hl, h]
theorem row_ext : ∀ {p q : List Int}, IsRow p → IsRow q → (∀ i, coef p i = coef q i) → p = q := by
  intro p q hp hq h
  have hlen : p.length = q.length := by
    rcases Nat.lt_trichotomy p.length q.length with c | c | c
    · exfalso
      rcases isRow_iff.mp hq with e | e
      · subst e
        simp at c
      · apply e
        rw [← h, coef_ge (by omega)]
    · exact c
    · exfalso
      rcases isRow_iff.mp hp with e | e
      · subst e
        simp at c
      · apply e
        rw [h, coef_ge (by omega)]
  apply List.ext_getElem hlen
  intro i h1 h2
  rw [← coef_lt h1, ← coef_lt h2, h]
def trim : List Int → List Int
  | [] => []
  | a :: p => if a = 0 ∧ trim p = [] then [] else a :: trim p
theorem coef_trim : ∀ (p : List Int) (i : Nat), coef (trim p) i = coef p i
  | [], _ => rfl
  | a :: p, i => by
    unfold trim
    split
    · rename_i h
      cases i with
      | zero => rw [coef_nil, coef_cons_zero, h.1]
      | succ i =>
        rw [coef_cons_succ, ← coef_trim p i, h.2, coef_nil, coef_nil]
    · cases i with
      | zero => rw [coef_cons_zero, coef_cons_zero]
      | succ i => rw [coef_cons_succ, coef_cons_succ, coef_trim p i]
theorem trim_row : ∀ p : List Int, IsRow (trim p)
  | [] => isRow_nil
  | a :: p => by
    unfold trim
    split
    · exact isRow_nil
    · rename_i h
      have ih := trim_row p
      unfold IsRow at ih ⊢
      cases e : trim p with
      | nil =>
        rw [List.getLast?_singleton]
        intro z
        exact h ⟨Option.some.inj z, e⟩
      | cons b r =>
        rw [e] at ih
        rw [List.getLast?_cons_cons]
        exact ih
theorem trim_eq {p q : List Int} (hq : IsRow q) (h : ∀ i, coef p i = coef q i) : trim p = q := row_ext (trim_row p) hq fun i => by rw [coef_trim, h]
theorem trim_congr {p q : List Int} (h : ∀ i, coef p i = coef q i) : trim p = trim q := row_ext (trim_row p) (trim_row q) fun i => by rw [coef_trim, coef_trim, h]
theorem trim_id {p : List Int} (h : IsRow p) : trim p = p := trim_eq h fun _ => rfl
theorem trim_len : ∀ p : List Int, (trim p).length ≤ p.length
  | [] => Nat.le_refl _
  | a :: p => by
    unfold trim
    split
    · exact Nat.zero_le _
    · have := trim_len p
      simp only [List.length_cons]
      omega
/-- cutting at the last that is not zero -/
theorem take_trim {p : List Int} {s : Nat} (hs : s ≤ p.length) (h0 : ∀ i, s ≤ i → coef p i = 0) (h1 : s = 0 ∨ coef p (s - 1) ≠ 0) : p.take s = trim p := by
  symm
  apply trim_eq
  · rw [isRow_iff]
    rcases h1 with e | e
    · left
      rw [e]
      simp
    · by_cases hz : s = 0
      · left
        rw [hz]
        simp
      · right
        rw [List.length_take, Nat.min_eq_left hs, coef_take, if_pos (by omega)]
        exact e
  · intro i
    rw [coef_take]
    split
    · rfl
    · exact h0 i (by omega)
theorem trim_mem {p : List Int} {x : Int} : x ∈ trim p → x ∈ p := by
  induction p with
  | nil => exact id
  | cons a p ih =>
    unfold trim
    split
    · intro h
      simp at h
    · intro h
      rcases List.mem_cons.mp h with e | h
      · rw [e]
        exact List.mem_cons_self ..
      · exact List.mem_cons_of_mem _ (ih h)

/-! ### sum, product -/
def padd : List Int → List Int → List Int
  | [], q => q
  | a :: p, [] => a :: p
  | a :: p, b :: q => (a + b) :: padd p q
theorem coef_padd : ∀ (p q : List Int) (i : Nat), coef (padd p q) i = coef p i + coef q i
  | [], q, i => by rw [coef_nil, Int.zero_add]; rfl
  | a :: p, [], i => by rw [coef_nil, Int.add_zero]; rfl
  | a :: p, b :: q, 0 => by
    show coef ((a + b) :: padd p q) 0 = _
    rw [coef_cons_zero, coef_cons_zero, coef_cons_zero]
  | a :: p, b :: q, i + 1 => by
    show coef ((a + b) :: padd p q) (i + 1) = _
    rw [coef_cons_succ, coef_cons_succ, coef_cons_succ, coef_padd p q i]
theorem padd_len : ∀ p q : List Int, (padd p q).length = max p.length q.length
  | [], q => by simp [padd]
  | a :: p, [] => by simp [padd]
  | a :: p, b :: q => by
    show (padd p q).length + 1 = _
    rw [padd_len p q]
    simp only [List.length_cons]
    omega
def pscale (n : Int) (p : List Int) : List Int := p.map (n * ·)
theorem coef_pscale (n : Int) (p : List Int) (i : Nat) : coef (pscale n p) i = n * coef p i := coef_map (f := (n * ·)) (Int.mul_zero n) p i
def pmul : List Int → List Int → List Int
  | [], _ => []
  | a :: p, q => padd (pscale a q) (0 :: pmul p q)
theorem coef_pmul_cons (a : Int) (p q : List Int) (k : Nat) : coef (pmul (a :: p) q) k = a * coef q k + (if k = 0 then 0 else coef (pmul p q) (k - 1)) := by
  show coef (padd (pscale a q) (0 :: pmul p q)) k = _
  rw [coef_padd, coef_pscale]
  cases k with
  | zero => rw [coef_cons_zero, if_pos rfl]
  | succ k => rw [coef_cons_succ, if_neg (Nat.succ_ne_zero k), Nat.add_sub_cancel]
theorem coef_pmul_app (a : Int) (q : List Int) : ∀ (p : List Int) (k : Nat), coef (pmul (p ++ [a]) q) k = coef (pmul p q) k + (if p.length ≤ k then a * coef q (k - p.length) else 0)
  | [], k => by
    rw [List.nil_append, coef_pmul_cons]
    have e : ∀ j, coef (pmul [] q) j = 0 := fun j => coef_nil j
    rw [e, e, List.length_nil, if_pos (Nat.zero_le k), Nat.sub_zero]
    split <;> omega
  | b :: p, k => by
    rw [List.cons_append, coef_pmul_cons, coef_pmul_cons]
    cases k with
    | zero =>
      rw [if_pos rfl, if_pos rfl, if_neg (by simp)]
      omega
    | succ k =>
      rw [if_neg (Nat.succ_ne_zero k), if_neg (Nat.succ_ne_zero k), Nat.add_sub_cancel, coef_pmul_app a q p k, List.length_cons]
      by_cases h : p.length ≤ k
      · rw [if_pos h, if_pos (by omega), Nat.succ_sub_succ]
        omega
      · rw [if_neg h, if_neg (by omega)]
        omega
theorem coef_pmul_take {p q : List Int} {i : Nat} (hi : i < p.length) (k : Nat) : coef (pmul (p.take (i + 1)) q) k = coef (pmul (p.take i) q) k + (if i ≤ k then coef p i * coef q (k - i) else 0) := by
  have e : p.take (i + 1) = p.take i ++ [coef p i] := by
    rw [List.take_add_one, get_coef hi]
    rfl
  rw [e, coef_pmul_app, List.length_take, Nat.min_eq_left (Nat.le_of_lt hi)]
theorem coef_pmul_set (q : List Int) (v : Int) : ∀ {p : List Int} {j : Nat} (hj : j < p.length) (h0 : coef p j = 0) (k : Nat), coef (pmul (p.set j v) q) k = coef (pmul p q) k + (if j ≤ k then v * coef q (k - j) else 0)
  | [], j, hj, _, _ => absurd hj (by simp)
  | a :: p, 0, _, h0, k => by
    rw [coef_cons_zero] at h0
    subst h0
    rw [List.set_cons_zero, coef_pmul_cons, coef_pmul_cons, if_pos (Nat.zero_le k), Nat.sub_zero]
    omega
  | a :: p, j + 1, hj, h0, k => by
    rw [coef_cons_succ] at h0
    rw [List.set_cons_succ, coef_pmul_cons, coef_pmul_cons]
    have hj' : j < p.length := by
      simp only [List.length_cons] at hj
      omega
    cases k with
    | zero => rw [if_pos rfl, if_pos rfl, if_neg (by omega)]; omega
    | succ k =>
      rw [if_neg (Nat.succ_ne_zero k), if_neg (Nat.succ_ne_zero k), Nat.add_sub_cancel, coef_pmul_set q v hj' h0 k]
      by_cases h : j ≤ k
      · rw [if_pos h, if_pos (by omega), Nat.succ_sub_succ]
        omega
      · rw [if_neg h, if_neg (by omega)]
        omega
theorem coef_pmul_ge : ∀ (p q : List Int) (k : Nat), p.length + q.length ≤ k + 1 → coef (pmul p q) k = 0
  | [], q, k, _ => coef_nil k
  | a :: p, q, k, h => by
    simp only [List.length_cons] at h
    rw [coef_pmul_cons]
    rw [coef_ge (p := q) (by omega)]
    cases k with
    | zero => simp
    | succ k =>
      rw [if_neg (Nat.succ_ne_zero k), Nat.add_sub_cancel, coef_pmul_ge p q k (by omega)]
      omega
theorem coef_pmul_top : ∀ (p q : List Int), p ≠ [] → q ≠ [] → coef (pmul p q) (p.length + q.length - 2) = coef p (p.length - 1) * coef q (q.length - 1)
  | [], _, h, _ => absurd rfl h
  | [a], q, _, hq => by
    have := List.length_pos_iff.mpr hq
    have e : ∀ j, coef (pmul [] q) j = 0 := fun j => coef_nil j
    have ea : [a].length + q.length - 2 = q.length - 1 := by
      simp only [List.length_cons, List.length_nil]
      omega
    rw [ea, coef_pmul_cons, e]
    show a * coef q (q.length - 1) + _ = coef [a] 0 * coef q (q.length - 1)
    rw [coef_cons_zero]
    split <;> omega
  | a :: b :: p, q, _, hq => by
    have hl := List.length_pos_iff.mpr hq
    have ih := coef_pmul_top (b :: p) q (List.cons_ne_nil _ _) hq
    rw [coef_pmul_cons]
    simp only [List.length_cons] at ih ⊢
    rw [coef_ge (p := q) (by omega), if_neg (by omega), show p.length + 1 + 1 + q.length - 2 - 1 = p.length + 1 + q.length - 2 by omega, ih, show p.length + 1 + 1 - 1 = (p.length + 1 - 1) + 1 by omega, coef_cons_succ]
    omega
theorem coef_pmul_nil : ∀ (p : List Int) (k : Nat), coef (pmul p []) k = 0
  | [], k => coef_nil k
  | a :: p, k => by
    rw [coef_pmul_cons, coef_nil]
    split
    · omega
    · rw [coef_pmul_nil p]
      omega
theorem pmul_row {p q : List Int} (hp : IsRow p) (hq : IsRow q) (h1 : p ≠ []) (h2 : q ≠ []) {l : List Int} (hl : l.length = p.length + q.length - 1) (hc : ∀ k, coef l k = coef (pmul p q) k) : IsRow l := by
  have l1 := List.length_pos_iff.mpr h1
  have l2 := List.length_pos_iff.mpr h2
  rw [isRow_iff]
  right
  rw [hl, hc, show p.length + q.length - 1 - 1 = p.length + q.length - 2 by omega, coef_pmul_top p q h1 h2]
  have a := (isRow_iff.mp hp).resolve_left h1
  have b := (isRow_iff.mp hq).resolve_left h2
  exact Int.mul_ne_zero a b
end My
/-! division of rows, values -/
namespace My
theorem trim_len_le {p : List Int} {n : Nat} (h : ∀ k, n ≤ k → coef p k = 0) : (trim p).length ≤ n := by
  rcases isRow_iff.mp (trim_row p) with e | e
  · rw [e]
    exact Nat.zero_le _
  · rw [coef_trim] at e
    by_cases c : (trim p).length ≤ n
    · exact c
    · exfalso
      exact e (h _ (by omega))
/-- one step of the division at the place at: many times the divisor is taken off -/
structure Div (p d F r : List Int) (m l : Int) (at1 : Nat) : Prop where
  flen : F.length = p.length - d.length + 1
  rlen : r.length = p.length
  fz : ∀ k, k < at1 → coef F k = 0
  eq : ∀ k, m * coef p k = coef (pmul F d) k + coef r k
  dvd : ∀ k, l ^ at1 ∣ coef r k
  top : ∀ k, at1 + d.length - 1 ≤ k → coef r k = 0
theorem Div.start {p d : List Int} {m l : Int} (hd : 0 < d.length) (hl : d.length ≤ p.length) (hm : l ^ (p.length - d.length + 1) ∣ m) :
    Div p d (List.replicate (p.length - d.length + 1) 0) (p.map fun c => m * c) m l (p.length - d.length + 1) := by
  refine ⟨List.length_replicate, List.length_map .., fun k _ => coef_rep _ _, fun k => ?_, fun k => ?_, fun k hk => coef_ge (by rw [List.length_map]; omega)⟩
  · have e : ∀ (n k : Nat), coef (pmul (List.replicate n 0) d) k = 0 := by
      intro n
      induction n with
      | zero => exact fun k => coef_nil k
      | succ n ih =>
        intro k
        rw [List.replicate_succ, coef_pmul_cons, ih, Int.zero_mul]
        split <;> rfl
    rw [e, coef_map (f := fun c => m * c) (Int.mul_zero m)]
    omega
  · rw [coef_map (f := fun c => m * c) (Int.mul_zero m)]
    exact Int.dvd_mul_of_dvd_left hm
/-- the coefficients behind the step -/
theorem Div.step {p d F r r' : List Int} {m l last many : Int} {at1 : Nat} (h : Div p d F r m l (at1 + 1)) (hd : 0 < d.length) (hlast : coef d (d.length - 1) = last) (hl0 : last ≠ 0) (hl : l = last.natAbs)
    (hat : at1 + d.length ≤ p.length) (hmany : many = (coef r (at1 + d.length - 1)).fdiv last) (hr : r'.length = p.length) (hr' : ∀ k, coef r' k = coef r k - (if at1 ≤ k then many * coef d (k - at1) else 0)) :
    Div p d (F.set at1 many) r' m l at1 := by
  have hF : at1 < F.length := by
    rw [h.flen]
    omega
  have hll : l ∣ last ∧ last ∣ l := by
    rw [hl]
    exact ⟨Int.natAbs_dvd.mpr (Int.dvd_refl _), Int.dvd_natAbs.mpr (Int.dvd_refl _)⟩
  -- the quotient is exact, and a multiple of the power below
  obtain ⟨x, hx⟩ := h.dvd (at1 + d.length - 1)
  obtain ⟨y, hy⟩ := hll.1
  obtain ⟨z, hz⟩ := hll.2
  have ez : z * y = 1 ∨ True := .inr trivial
  have e1 : coef r (at1 + d.length - 1) = last * (l ^ at1 * (z * x)) := by
    rw [hx, Int.pow_succ, hz]
    simp only [Int.mul_assoc, Int.mul_comm, Int.mul_left_comm]
  have e2 : many = l ^ at1 * (z * x) := by
    rw [hmany, e1, Int.mul_fdiv_cancel_left _ hl0]
  have e3 : many * last = coef r (at1 + d.length - 1) := by
    rw [e1, e2, Int.mul_comm]
  refine ⟨by rw [List.length_set]; exact h.flen, hr, fun k hk => ?_, fun k => ?_, fun k => ?_, fun k hk => ?_⟩
  · rw [coef_set hF, if_neg (by omega)]
    exact h.fz k (by omega)
  · rw [coef_pmul_set d many hF (h.fz at1 (by omega)), hr', h.eq k]
    split <;> omega
  · rw [hr']
    refine Int.dvd_sub ?_ ?_
    · exact Int.dvd_trans ⟨l, by rw [Int.pow_succ]⟩ (h.dvd k)
    · split
      · exact Int.dvd_mul_of_dvd_left ⟨z * x, e2⟩
      · exact Int.dvd_zero _
  · rw [hr']
    by_cases c : k = at1 + d.length - 1
    · subst c
      rw [if_pos (by omega), show at1 + d.length - 1 - at1 = d.length - 1 by omega, hlast, e3]
      omega
    · rw [h.top k (by omega), if_pos (by omega), coef_ge (p := d) (by omega)]
      omega
theorem Div.rest {p d F r : List Int} {m l : Int} (h : Div p d F r m l 0) (hd : 0 < d.length) : (trim r).length < d.length := by
  have := trim_len_le (p := r) (n := d.length - 1) (fun k hk => h.top k (by omega))
  omega
theorem Div.exact {p d F r : List Int} {m l last many : Int} {at1 : Nat} (h : Div p d F r m l (at1 + 1)) (hl0 : last ≠ 0) (hl : l = last.natAbs) {k : Nat} (hmany : many = (coef r k).fdiv last) : many * last = coef r k := by
  obtain ⟨x, hx⟩ := h.dvd k
  have hll : last ∣ l := by
    rw [hl]
    exact Int.dvd_natAbs.mpr (Int.dvd_refl _)
  obtain ⟨z, hz⟩ := hll
  have e1 : coef r k = last * (l ^ at1 * (z * x)) := by
    rw [hx, Int.pow_succ, hz]
    simp only [Int.mul_assoc, Int.mul_comm, Int.mul_left_comm]
  rw [hmany, e1, Int.mul_fdiv_cancel_left _ hl0, Int.mul_comm]
theorem Div.many_le {p d F r : List Int} {m l last many : Int} {at1 : Nat} (h : Div p d F r m l (at1 + 1)) (hl0 : last ≠ 0) (hl : l = last.natAbs) {k : Nat} (hmany : many = (coef r k).fdiv last) : many.natAbs ≤ (coef r k).natAbs := by
  rw [← h.exact hl0 hl hmany, Int.natAbs_mul]
  exact Nat.le_mul_of_pos_right _ (by omega)
theorem coef_pmul_zero (q : List Int) : ∀ (p : List Int), (∀ k, coef p k = 0) → ∀ k, coef (pmul p q) k = 0
  | [], _, k => coef_nil k
  | a :: p, h, k => by
    have ha : a = 0 := by
      have := h 0
      rwa [coef_cons_zero] at this
    rw [coef_pmul_cons, ha, Int.zero_mul]
    split
    · rfl
    · rw [coef_pmul_zero q p fun k => by have := h (k + 1); rwa [coef_cons_succ] at this]
      rfl
theorem coef_pmul_congr (q : List Int) : ∀ (p p' : List Int), (∀ k, coef p k = coef p' k) → ∀ k, coef (pmul p q) k = coef (pmul p' q) k
  | [], p', h, k => by
    have e : coef (pmul [] q) k = 0 := coef_nil k
    rw [e, coef_pmul_zero q p' fun k => by rw [← h, coef_nil]]
  | a :: p, [], h, k => by
    have e : coef (pmul [] q) k = 0 := coef_nil k
    rw [e, coef_pmul_zero q (a :: p) fun k => by rw [h, coef_nil]]
  | a :: p, b :: p', h, k => by
    have hab : a = b := by
      have := h 0
      rwa [coef_cons_zero, coef_cons_zero] at this
    rw [coef_pmul_cons, coef_pmul_cons, hab, coef_pmul_congr q p p' fun k => by have := h (k + 1); rwa [coef_cons_succ, coef_cons_succ] at this]
theorem coef_pmul_one (m : Int) (p : List Int) (k : Nat) : coef (pmul [m] p) k = m * coef p k := by
  have e : ∀ j, coef (pmul [] p) j = 0 := fun j => coef_nil j
  rw [coef_pmul_cons, e]
  split <;> omega
end My
/-! Euclid in few turns -/
namespace My
/-- the i-th turn of Euclid's rule, b below 2 ^ L at first -/
def Euc (L i x y : Nat) : Prop := (i % 2 = 0 → y * 2 ^ (i / 2) < 2 ^ L) ∧ (i % 2 = 1 → x * 2 ^ (i / 2) < 2 ^ L ∧ y < x)
theorem Euc.step {L i x y : Nat} (h : Euc L i x y) (hy : y ≠ 0) : Euc L (i + 1) y (x % y) := by
  have hlt : x % y < y := Nat.mod_lt _ (by omega)
  refine ⟨fun e => ?_, fun e => ?_⟩
  · obtain ⟨h1, h2⟩ := h.2 (by omega)
    have e2 : (i + 1) / 2 = i / 2 + 1 := by omega
    rw [e2, Nat.pow_succ]
    have hm : x % y * 2 ≤ x := by
      have a := Nat.div_add_mod x y
      have b : 1 ≤ x / y := (Nat.le_div_iff_mul_le (by omega)).mpr (by omega)
      have c : y * 1 ≤ y * (x / y) := Nat.mul_le_mul_left y b
      omega
    have hp : 0 < 2 ^ (i / 2) := Nat.two_pow_pos _
    calc x % y * (2 ^ (i / 2) * 2) = x % y * 2 * 2 ^ (i / 2) := by rw [Nat.mul_assoc, Nat.mul_comm 2]
      _ ≤ x * 2 ^ (i / 2) := Nat.mul_le_mul_right _ hm
      _ < 2 ^ L := h1
  · have h1 := h.1 (by omega)
    have e2 : (i + 1) / 2 = i / 2 := by omega
    rw [e2]
    exact ⟨h1, hlt⟩
theorem Euc.zero {L x y : Nat} (h : Euc L (2 * L + 4) x y) : y = 0 := by
  have h1 := h.1 (by omega)
  have e : (2 * L + 4) / 2 = L + 2 := by omega
  rw [e] at h1
  by_cases c : y = 0
  · exact c
  · exfalso
    have a : 1 * 2 ^ (L + 2) ≤ y * 2 ^ (L + 2) := Nat.mul_le_mul_right _ (by omega)
    have b : 2 ^ L ≤ 2 ^ (L + 2) := Nat.pow_le_pow_right (by decide) (by omega)
    omega
end My
open My PySem PySem.Spec PyProof.Rows L2
local macro_rules | `(tactic| walk_at "w1") => `(tactic| first
  | (with_reducible first
    | refine w_seq ?_
    | refine w_asg ?_
    | refine w_asgG ?_
    | refine w_ret ?_
    | refine w_drop ?_
    | refine w_if ?_
    | refine w_next ?_
    | refine w_break ?_
    | refine w_continue ?_
    | refine w_par ?_
    | refine w_two ?_
    | refine w_c ?_
    | refine w_op ?_
    | refine w_un ?_
    | refine w_I0 ?_
    | refine w_U ?_
    | refine w_eqI ?_
    | refine w_neI ?_
    | refine w_test ?_
    | refine w_B ?_
    | refine w_bl ?_
    | refine w_int ?_
    | refine w_N ?_
    | refine w_and ?_
    | refine w_or ?_
    | refine w_not ?_
    | refine w_andV ?_
    | refine w_orV ?_
    | refine w_notV ?_
    | refine w_ifE ?_
    | refine w_nil ?_
    | refine w_cons ?_
    | refine w_cb ?_
    | refine w_call ?_
    | refine w_tup ?_
    | refine w_lst ?_
    | refine w_abs ?_
    | refine w_max2 ?_
    | refine w_min2 ?_
    | refine w_int1 ?_
    | refine w_int1b ?_
    | refine w_gcd ?_
    | refine w_sl ?_
    | refine w_nopart ?_
    | refine w_part ?_
    | refine w_gname ?_
    | refine w_gsub ?_
    | refine w_gcons ?_
    | refine w_gnil ?_
    | refine w_bm ?_
    | refine w_for ?_
    | refine w_lc ?_
    | refine w_iL ?_
    | refine w_iT ?_
    | refine w_iR1 ?_
    | refine w_iR2 ?_
    | refine w_iE ?_
    | refine w_iV ?_
    | refine w_iR3 ?_
    | refine w_tru ?_
    | refine w_bits ?_)
  | ((with_reducible refine' w_var ?e ?_); (case e => with_unfolding_all rfl))
  | (with_reducible refine w_mod (by decide) ?_)
  | (with_reducible refine w_div (by decide) (by decide) ?_)
  | (with_reducible refine w_pow (by decide) (by decide) (by decide) ?_)
  | (with_reducible refine w_mulr (by decide) ?_)
  | (with_reducible refine w_mull (by decide) ?_)
  | ((with_reducible refine' w_ixL ?h ?e ?_); (case h => exact SqL.of (by assumption)); (case e => with_unfolding_all rfl))
  | ((with_reducible refine' w_ixT ?h ?e ?_); (case h => assumption); (case e => with_unfolding_all rfl)))
local macro_rules | `(tactic| walk_at "go") => `(tactic| repeat (walk_at "w1"))
local macro_rules | `(tactic| walk_at "hf") => `(tactic| first
  | assumption
  | (refine SqT.of ?_; walk_at "hf")
  | (refine SqL.of ?_; assumption)
  | (refine Ch.sqT (by assumption) ?_; walk_at "hf")
  | (refine Ch.at0 (by assumption) ?_; walk_at "hf")
  | (refine Ch.sq0 (by assumption) ?_; walk_at "hf")
  | (refine Ch.at1 (by assumption) (by first | assumption | exact Ne.symm (by assumption) | exact ne_of_none (by assumption) (by assumption) | exact Ne.symm (ne_of_none (by assumption) (by assumption))) ?_; walk_at "hf"))
local macro_rules | `(tactic| walk_at "sz") => `(tactic| first
  | assumption
  | (refine sz_le ?_; simp only [List.length_map, List.length_append, List.length_cons, List.length_nil, List.length_replicate, List.length_take, List.length_drop, List.length_range, List.length_set]; omega)
  | (refine sz_lt ?_; simp only [List.length_map, List.length_append, List.length_cons, List.length_nil, List.length_replicate, List.length_take, List.length_drop, List.length_range, List.length_set]; omega))

namespace My
open PySem PySem.Spec PyProof.Rows L2
def topS (i : Nat) : Stmt := PySem.Challenge.pw_cellspire_k03_rows_and_division.main.body.getD i (.Pass ⟨0, 0, 0, 0⟩)
/-- names that stay the built-in's -/
structure Txt (mg : Str → Option Value) : Prop where
  z_len : mg "len" = none
  z_tuple : mg "tuple" = none
  z_list : mg "list" = none
  z_min : mg "min" = none
  z_max : mg "max" = none
  z_abs : mg "abs" = none
  z_int : mg "int" = none
  z_bool : mg "bool" = none
  z_all : mg "all" = none
  z_range : mg "range" = none
  z_enumerate : mg "enumerate" = none
  z_reversed : mg "reversed" = none
  z_isinstance : mg "isinstance" = none
  m_gcd : mg "gcd" = some (.builtin "math.gcd")
section
variable {P : Program} {w : World} {K : PySem.W.Frag} {mg : Str → Option Value} {base : Heap}

/-! ### whole_power -/
theorem abs_pow_lt {a : Int} {b s : Nat} (h : a.natAbs < 2 ^ b) : (a ^ s).natAbs < 2 ^ (b * s + 1) := by
  have e : (a ^ s).natAbs = a.natAbs ^ s := Int.natAbs_pow a s
  rw [e]
  have h1 : a.natAbs ^ s ≤ (2 ^ b) ^ s := Nat.pow_le_pow_left (Nat.le_of_lt h) s
  rw [← Nat.pow_mul] at h1
  exact Nat.lt_of_le_of_lt h1 (Nat.pow_lt_pow_right (by decide) (Nat.lt_succ_self _))
abbrev s_whole_power : Stmt := topS 6
theorem sc_whole_power : FnScope ["a", "n", "power", "square", "left"] ["a", "n"] (defScope s_whole_power) := ⟨rfl, rfl, rfl, by decide +kernel, rfl, by decide +kernel, by decide +kernel⟩
def sp_whole_power : Sp := fun vs H Q _ => ∃ (a : Int) (n b : Nat), vs = [.int a, .int n] ∧ a.natAbs < 2 ^ b ∧ b * n ≤ 1000000 ∧ n ≤ 1000000 ∧ Q (.int (a ^ n)) H
theorem c_whole_power {f : Addr} {fd : FuncData} (F : DefF K mg "whole_power" s_whole_power ["a", "n"] f fd) : Cal P w K mg base 1 "whole_power" sp_whole_power := by
  refine cal_of F sc_whole_power (fun vs H Q E h => by obtain ⟨_, _, _, rfl, _⟩ := h; rfl) (fun cdv A outer s H vs Q E hr h => ?_)
  obtain ⟨a, n, b, rfl, hb, hbn, hn, q⟩ := h
  refine ⟨_, (pss_cons (ps_set (i := 2) sc_whole_power.nd rfl (Or.inl rfl) pe_int)
 (pss_cons (ps_set (i := 3) sc_whole_power.nd rfl (Or.inl rfl) (pv 0))
 (pss_cons (ps_set (i := 4) sc_whole_power.nd rfl (Or.inl rfl) (pv 1))
 (pss_cons (ps_while PassesOwn.never (pt_cmpR op_gt (pv 4) pe_int (nomark _)) (Evl.pss_cut (ps_if (pt_cmpR op_eq (pe_op op_mod (pv 4) pe_int) pe_int (nomark _)) (pss_one (ps_set (i := 2) sc_whole_power.nd rfl (Or.inl rfl) (pe_op op_mulG (pv 2) (pv 3)))) pss_nil)
 (pss_cons (ps_set (i := 4) sc_whole_power.nd rfl (Or.inl rfl) (pe_op op_fdiv (pv 4) pe_int))
 (pss_one (ps_if (pt_cmpR op_gt (pv 4) pe_int (nomark _)) (pss_one (ps_set (i := 3) sc_whole_power.nd rfl (Or.inl rfl) (pe_op op_mulG (pv 3) (pv 3)))) pss_nil)))))
 (pss_one (ps_ret (pv 2))))))), ?_⟩
  refine w_start (σ := [some _, some _, none, none, none]) rfl ?_
  walk_at "go"
  refine w_while (fun m σ H' => H' = H ∧ ∃ (s l pw : Nat), σ = [some (.int a), some (.int n), some (.int (a ^ pw)), some (.int (a ^ s)), some (.int (l : Int))] ∧ pw + s * l = n ∧ m = l ∧ l ≤ n ∧ (0 < l → s ≤ n)) n ⟨rfl, 1, n, 0, ?_, by omega, rfl, Nat.le_refl _, fun h => h⟩ ?_
  · rw [Int.pow_zero, Int.pow_succ, Int.pow_zero, Int.one_mul]
    rfl
  rintro m σ H' ⟨rfl, s', l, pw, rfl, e1, rfl, hl, hs⟩
  walk_at "go"
  refine ite_d (fun h0 => ?_) (fun h0 => ?_)
  · have h1 : 0 < m := by omega
    have hsn := hs h1
    walk_at "go"
    have hsz : b * s' + 1 ≤ 1000001 := by
      have := Nat.mul_le_mul_left b hsn
      omega
    have hpz : b * pw + 1 ≤ 1000001 := by
      have : pw ≤ n := by omega
      have := Nat.mul_le_mul_left b this
      omega
    have bs := abs_pow_lt (s := s') hb
    have bp := abs_pow_lt (s := pw) hb
    refine w_cut (M := fun σ' H'' => H'' = H' ∧ ∃ pw' : Nat, σ' = [some (.int a), some (.int n), some (.int (a ^ pw')), some (.int (a ^ s')), some (.int (m : Int))] ∧ pw' + s' * 2 * (m / 2) = n) ?_ ?_
    · walk_at "go"
      refine ite_d (fun ho => ?_) (fun ho => ?_)
      · walk_at "go"
        refine w_I (mul_ok bp bs (by omega)) ?_
        refine ⟨rfl, pw + s', ?_, ?_⟩
        · rw [← Int.pow_add]
          rfl
        · have em : m = 2 * (m / 2) + 1 := by omega
          have e2 : s' * m = s' * (2 * (m / 2)) + s' := by
            conv => lhs; rw [em]
            rw [Nat.mul_add, Nat.mul_one]
          rw [Nat.mul_assoc]
          omega
      · walk_at "go"
        refine ⟨rfl, pw, rfl, ?_⟩
        have em : m = 2 * (m / 2) := by omega
        rw [Nat.mul_assoc, ← em]
        exact e1
    · rintro σ' H'' ⟨rfl, pw', rfl, ep⟩
      walk_at "go"
      have ed : (m : Int) / 2 = ((m / 2 : Nat) : Int) := by omega
      refine ite_d (fun h2 => ?_) (fun h2 => ?_)
      · walk_at "go"
        refine w_I (mul_ok bs bs (by omega)) ?_
        refine ⟨m / 2, by omega, rfl, s' * 2, m / 2, pw', ?_, ep, rfl, by omega, fun _ => ?_⟩
        · rw [ed, Nat.mul_two, Int.pow_add]
          rfl
        · have h3 : 1 ≤ m / 2 := by omega
          have := Nat.mul_le_mul_left (s' * 2) h3
          omega
      · walk_at "go"
        have h3 : m / 2 = 0 := by omega
        refine ⟨m / 2, by omega, rfl, s', m / 2, pw', ?_, ?_, rfl, by omega, fun h => absurd h (by omega)⟩
        · rw [ed]
          rfl
        · rw [h3] at ep ⊢
          omega
  · have h1 : m = 0 := by omega
    subst h1
    walk_at "go"
    have : pw = n := by omega
    subst this
    exact q

/-! ### gcd_of -/
abbrev s_gcd_of : Stmt := topS 7
theorem sc_gcd_of : FnScope ["numbers", "common", "n"] ["numbers"] (defScope s_gcd_of) := ⟨rfl, rfl, rfl, by decide +kernel, rfl, by decide +kernel, by decide +kernel⟩
def gcdL (p : List Int) : Nat := p.foldl (fun g x => Nat.gcd g x.natAbs) 0
def sp_gcd_of (K : PySem.W.Frag) : Sp := fun vs H Q _ => ∃ (a : Addr) (p : List Int), vs = [.ref a] ∧ SqT K H a (ivs p) ∧ Q (.int (gcdL p)) H
theorem c_gcd_of (T : Txt mg) {f : Addr} {fd : FuncData} (F : DefF K mg "gcd_of" s_gcd_of ["numbers"] f fd) : Cal P w K mg base 1 "gcd_of" (sp_gcd_of K) := by
  refine cal_of F sc_gcd_of (fun vs H Q E h => by obtain ⟨_, _, rfl, _⟩ := h; rfl) (fun cdv A outer s H vs Q E hr h => ?_)
  obtain ⟨a, p, rfl, hp, q⟩ := h
  refine ⟨_, (pss_cons (ps_set (i := 1) sc_gcd_of.nd rfl (Or.inl rfl) pe_int)
 (pss_cons (ps_for PassesOwn.never rfl (k_piT (K := K) rfl (pv 0)) (pg_name (i := 2) sc_gcd_of.nd rfl (Or.inl rfl)) (pss_one (ps_set (i := 1) sc_gcd_of.nd rfl (Or.inl rfl) (pe_callBfun cr_gcd (by rfl) T.m_gcd (pa_cons (pv 1) (pa_cons (pv 2) pa_nil))))))
 (pss_one (ps_ret (pv 1))))), ?_⟩
  refine w_start (σ := [some _, none, none]) rfl ?_
  walk_at "go"
  refine w_iTr hp ?_
  refine for_Ti (ns := p) (fun i σ H' => H' = H ∧ ∃ z, σ = [some (.ref a), some (.int (gcdL (p.take i))), z]) ⟨rfl, none, rfl⟩ (fun i σ H' _ h => by rw [h.1]; exact hp) ?_ ?_
  · rintro i x σ H' hx ⟨rfl, z, rfl⟩
    walk_at "go"
    refine ⟨rfl, some (.int x), ?_⟩
    have e : gcdL (p.take (i + 1)) = Nat.gcd (gcdL (p.take i)) x.natAbs := by
      unfold gcdL
      rw [List.take_add_one, hx, List.foldl_append]
      rfl
    rw [e]
    rfl
  · rintro σ H' ⟨rfl, z, rfl⟩
    walk_at "go"
    rw [List.take_length]
    exact q

/-! ### make_row -/
abbrev s_make_row : Stmt := topS 10
theorem sc_make_row : FnScope ["numbers", "size"] ["numbers"] (defScope s_make_row) := ⟨rfl, rfl, rfl, by decide +kernel, rfl, by decide +kernel, by decide +kernel⟩
def RetT (K : PySem.W.Frag) (H : Hp) (Q : VK) (p : List Int) : Prop := ∀ a H', Ch [] H H' → SqT K H' a (ivs p) → Q (.ref a) H'
def sp_make_row (K : PySem.W.Frag) : Sp := fun vs H Q _ => ∃ (a : Addr) (p : List Int), vs = [.ref a] ∧ H a = some (.lst (ivs p)) ∧ p.length < 100000 ∧ RetT K H Q (trim p)
theorem sIx_nat' (n d k : Nat) : HT.sIx n d (some (k : Int)) = min k n := HT.sIx_nat n d k
theorem cut_to {xs : List V} {k : Nat} (h : k ≤ xs.length) : cutV xs none (some (k : Int)) = xs.take k := by
  unfold cutV
  rw [sIx_nat', HT.sIx_none, List.drop_zero, Nat.sub_zero, Nat.min_eq_left h]
theorem cut_from {xs : List V} {k : Nat} : cutV xs (some (k : Int)) none = xs.drop k := by
  unfold cutV
  rw [sIx_nat', HT.sIx_none]
  by_cases h : k ≤ xs.length
  · rw [Nat.min_eq_left h]
    exact List.take_of_length_le (by rw [List.length_drop]; omega)
  · rw [Nat.min_eq_right (by omega), Nat.sub_self, List.take_zero, List.drop_eq_nil_of_le (by omega)]
theorem c_make_row (T : Txt mg) {f : Addr} {fd : FuncData} (F : DefF K mg "make_row" s_make_row ["numbers"] f fd) : Cal P w K mg base 1 "make_row" (sp_make_row K) := by
  refine cal_of F sc_make_row (fun vs H Q E h => by obtain ⟨_, _, rfl, _⟩ := h; rfl) (fun cdv A outer s H vs Q E hr h => ?_)
  obtain ⟨a, p, rfl, hp, hl, q⟩ := h
  refine ⟨_, (pss_cons (ps_set (i := 1) sc_make_row.nd rfl (Or.inl rfl) (pe_callB (k_len (K := K) rfl) (by rfl) T.z_len PySem.boot_len (pa_cons (pv 0) pa_nil)))
 (pss_cons (ps_while PassesOwn.never (PW.pt (pw_and (pt_cmpR op_gt (pv 1) pe_int (nomark _)) (pw_and1 (pt_cmpR op_eq (pe_ix (k_ixL (K := K) rfl) (pv 0) (pe_op op_sub (pv 1) pe_int) (fun _ _ => rfl)) pe_int (nomark _))))) (pss_one (ps_set (i := 1) sc_make_row.nd rfl (Or.inl rfl) (pe_op op_sub (pv 1) pe_int))))
 (pss_one (ps_ret (pe_callTy (k_tuple (K := K) rfl) (by rfl) T.z_tuple (by decide +kernel) (pa_cons (pe_slice (k_slL (K := K) rfl) (pv 0) po_none (po_some (pv 1))) pa_nil)))))), ?_⟩
  refine w_start (σ := [some _, none]) rfl ?_
  walk_at "go"
  refine w_lenLi hp ?_
  walk_at "go"
  refine w_while (fun m σ H' => H' = H ∧ m ≤ p.length ∧ σ = [some (.ref a), some (.int m)] ∧ ∀ i, m ≤ i → coef p i = 0) p.length ⟨rfl, Nat.le_refl _, rfl, fun i hi => coef_ge hi⟩ ?_
  · rintro m σ H' ⟨rfl, hm, rfl, h0⟩
    walk_at "go"
    refine ite_d (fun h1 => ?_) (fun h1 => ?_)
    · walk_at "go"
      refine w_ixLi (k := m - 1) hp (by omega) (get_coef (by omega)) ?_
      walk_at "go"
      refine ite_d (fun h2 => ?_) (fun h2 => ?_)
      · walk_at "go"
        have em : (m : Int) - 1 = ((m - 1 : Nat) : Int) := by omega
        refine ⟨m - 1, by omega, rfl, by omega, by rw [em]; rfl, fun i hi => ?_⟩
        by_cases c : i = m - 1
        · rw [c]
          exact h2
        · exact h0 i (by omega)
      · walk_at "go"
        refine w_slL (.of hp) fun b H1 nb c1 hb => ?_
        walk_at "go"
        refine w_tupleL (.of hb) fun c H2 nc c2 hc => ?_
        rw [cut_to (by rw [List.length_map]; exact hm), ← List.map_take, take_trim hm h0 (.inr h2)] at hc
        exact q _ _ (c1.trans c2) (.of hc)
    · have hm0 : m = 0 := by omega
      subst hm0
      rw [if_neg (by decide)]
      walk_at "go"
      refine w_slL (.of hp) fun b H1 nb c1 hb => ?_
      walk_at "go"
      refine w_tupleL (.of hb) fun c H2 nc c2 hc => ?_
      rw [cut_to (by rw [List.length_map]; exact hm), ← List.map_take, take_trim hm h0 (.inl rfl)] at hc
      exact q _ _ (c1.trans c2) (.of hc)
end
end My

namespace My
open PySem PySem.Spec PyProof.Rows L2
section
variable {P : Program} {w : World} {K : PySem.W.Frag} {mg : Str → Option Value} {base : Heap}
/-- all below 2 ^ n in size -/
def Fit (n : Nat) (p : List Int) : Prop := ∀ x ∈ p, x.natAbs < 2 ^ n
theorem Fit.at {n : Nat} {p : List Int} (h : Fit n p) (hn : 0 < 2 ^ n) (i : Nat) : (coef p i).natAbs < 2 ^ n := by
  by_cases c : i < p.length
  · exact h _ (coef_mem c)
  · rw [coef_ge (by omega)]
    exact hn
theorem Fit.trim {n : Nat} {p : List Int} (h : Fit n p) : Fit n (My.trim p) := fun x hx => h x (trim_mem hx)
/-! ### row_scale -/
abbrev s_row_scale : Stmt := topS 11
theorem sc_row_scale : FnScope ["p", "n", "c"] ["p", "n"] (defScope s_row_scale) := ⟨rfl, rfl, rfl, by decide +kernel, rfl, by decide +kernel, by decide +kernel⟩
def sp_row_scale (K : PySem.W.Frag) : Sp := fun vs H Q _ => ∃ (a : Addr) (p : List Int) (n : Int), vs = [.ref a, .int n] ∧ SqT K H a (ivs p) ∧ p.length < 100000 ∧ n.natAbs < 2 ^ 63 ∧ n ≠ 0 ∧ RetT K H Q (p.map fun c => c * n)
theorem c_row_scale (T : Txt mg) {f : Addr} {fd : FuncData} (F : DefF K mg "row_scale" s_row_scale ["p", "n"] f fd) : Cal P w K mg base 1 "row_scale" (sp_row_scale K) := by
  refine cal_of F sc_row_scale (fun vs H Q E h => by obtain ⟨_, _, _, rfl, _⟩ := h; rfl) (fun cdv A outer s H vs Q E hr h => ?_)
  obtain ⟨a, p, n, rfl, hp, hl, hn, hn0, q⟩ := h
  refine ⟨_, (pss_cons (ps_if (pt_cmpR op_eq (pv 1) pe_int (nomark _)) (pss_one (ps_ret (pe_tup pa_nil))) pss_nil)
 (pss_one (ps_ret (pe_callTy (k_tuple (K := K) rfl) (by rfl) T.z_tuple (by decide +kernel) (pa_cons (pe_lc (own := [("c", 2)]) (g := gName 2) rfl sc_row_scale.nd (k_piT (K := K) rfl (pv 0)) (blkOk_by (own := [("c", 2)]) (N := ["p", "n", "c"]) (sc := defScope s_row_scale) (by decide +kernel)) (fun _ _ _ _ _ => pg_name (i := 2) sc_row_scale.nd rfl (Or.inl rfl)) (fun _ _ _ _ _ => pts_nil) (fun _ _ _ _ _ => (pe_op op_mulG (pv 2) (pv 1)))) pa_nil))))), ?_⟩
  refine w_start (σ := [some _, some _, none]) rfl ?_
  walk_at "go"
  refine ite_df hn0 ?_
  walk_at "go"
  refine w_iTr hp ?_
  refine lc_Ti (fun x => .int (x * n)) rfl hp hl (fun x H1 hx c S k => ?_) (fun D H1 nD c hD => ?_)
  · walk_at "go"
    refine w_mulr hn ?_
    exact k _ .refl
  · walk_at "go"
    refine w_tupleL (.of hD) fun t H2 nt c2 ht => ?_
    refine q _ _ (c.trans c2) (.of ?_)
    rw [ht, ivs, List.map_map]
    rfl
/-! ### row_plus -/
abbrev s_row_plus : Stmt := topS 12
theorem sc_row_plus : FnScope ["p", "q", "shared", "low", "k"] ["p", "q"] (defScope s_row_plus) := ⟨rfl, rfl, rfl, by decide +kernel, rfl, by decide +kernel, by decide +kernel⟩
def sp_row_plus (K : PySem.W.Frag) : Sp := fun vs H Q _ => ∃ (a b : Addr) (p r : List Int), vs = [.ref a, .ref b] ∧ SqT K H a (ivs p) ∧ SqT K H b (ivs r) ∧ p.length ≤ 1000 ∧ r.length ≤ 1000 ∧ RetT K H Q (trim (padd p r))
theorem padd_cut (p r : List Int) : ((List.range (min p.length r.length)).map fun k => coef p k + coef r k) ++ p.drop (min p.length r.length) ++ r.drop (min p.length r.length) = padd p r := by
  apply List.ext_getElem
  · rw [padd_len]
    simp only [List.length_append, List.length_map, List.length_range, List.length_drop]
    omega
  · intro i h1 h2
    rw [← coef_lt h1, ← coef_lt h2, coef_padd, coef_append, coef_append, coef_range]
    simp only [List.length_append, List.length_map, List.length_range, List.length_drop]
    rw [padd_len] at h2
    have hd : ∀ (l : List Int) (n j : Nat), coef (l.drop n) j = coef l (n + j) := fun l n j => by
      unfold coef
      simp only [List.getD_eq_getElem?_getD, List.getElem?_drop]
    rw [hd, hd]
    by_cases c1 : i < min p.length r.length
    · rw [if_pos (by omega), if_pos c1, if_pos c1]
    · by_cases c2 : i < p.length
      · rw [if_pos (by omega), if_neg c1, coef_ge (p := r) (i := i) (by omega), show min p.length r.length + (i - min p.length r.length) = i by omega]
        omega
      · rw [if_neg (by omega), coef_ge (p := p) (i := i) (by omega), show min p.length r.length + (i - (min p.length r.length + (p.length - min p.length r.length))) = i by omega]
        omega
theorem c_row_plus (T : Txt mg) (C_make_row : Cal P w K mg base 1 "make_row" (sp_make_row K)) {f : Addr} {fd : FuncData} (F : DefF K mg "row_plus" s_row_plus ["p", "q"] f fd) : Cal P w K mg base 2 "row_plus" (sp_row_plus K) := by
  refine cal_of F sc_row_plus (fun vs H Q E h => by obtain ⟨_, _, _, _, rfl, _⟩ := h; rfl) (fun cdv A outer s H vs Q E hr h => ?_)
  obtain ⟨a, b, p, r, rfl, hp, hq, hlp, hlr, q⟩ := h
  refine ⟨_, (pss_cons (ps_set (i := 2) sc_row_plus.nd rfl (Or.inl rfl) (pe_callB (cb_min2 rfl) (by rfl) T.z_min (by decide +kernel) (pa_cons (pe_callB (k_len (K := K) rfl) (by rfl) T.z_len PySem.boot_len (pa_cons (pv 0) pa_nil)) (pa_cons (pe_callB (k_len (K := K) rfl) (by rfl) T.z_len PySem.boot_len (pa_cons (pv 1) pa_nil)) pa_nil))))
 (pss_cons (ps_setLc (i := 3) (own := [("k", 4)]) (g := gName 4) rfl sc_row_plus.nd rfl rfl (sw_true rfl rfl rfl (by decide +kernel)) (pi_range1 (by rfl) T.z_range (pa_cons (pv 2) pa_nil)) (blkOk_by (own := [("k", 4)]) (N := ["p", "q", "shared", "low", "k"]) (sc := defScope s_row_plus) (by decide +kernel)) (fun _ _ _ _ _ => pg_name (i := 4) sc_row_plus.nd rfl (Or.inl rfl)) (fun _ _ _ _ _ => pts_nil) (fun _ _ _ _ _ => (pe_op op_add (pe_ix (k_ixT (K := K) rfl) (pv 0) (pv 4) (fun _ _ => rfl)) (pe_ix (k_ixT (K := K) rfl) (pv 1) (pv 4) (fun _ _ => rfl)))))
 (pss_one (ps_ret (pe_cc C_make_row hr (by decide) (by rfl) (pa_cons (pe_op op_cat (pe_op op_cat (pv 3) (pe_callTy (k_list (K := K) rfl) (by rfl) T.z_list (by decide +kernel) (pa_cons (pe_slice (k_slT (K := K) rfl) (pv 0) (po_some (pv 2)) po_none) pa_nil))) (pe_callTy (k_list (K := K) rfl) (by rfl) T.z_list (by decide +kernel) (pa_cons (pe_slice (k_slT (K := K) rfl) (pv 1) (po_some (pv 2)) po_none) pa_nil))) pa_nil)))))), ?_⟩
  refine w_start (σ := [some _, some _, none, none, none]) rfl ?_
  walk_at "go"
  refine w_lenTi hp ?_
  walk_at "go"
  refine w_lenTi hq ?_
  walk_at "go"
  have em : (if (r.length : Int) < p.length then (r.length : Int) else p.length) = ((min p.length r.length : Nat) : Int) := by split <;> omega
  rw [em]
  walk_at "go"
  refine w_iR1r (by omega) (by omega) ?_
  refine lc_R (n := min p.length r.length) (fun k => .int (coef p k + coef r k)) rfl (by omega) (fun k H1 hk c S kk => ?_) (fun D H1 nD c hD => ?_)
  · walk_at "go"
    refine w_ixTi (k := k) (c.sqT hp) (by omega) (get_coef (by omega)) ?_
    walk_at "go"
    refine w_ixTi (k := k) (c.sqT hq) (by omega) (get_coef (by omega)) ?_
    walk_at "go"
    exact kk _ .refl
  · walk_at "go"
    refine w_slT (c.sqT hp) fun t1 H2 c2 ht1 => ?_
    walk_at "go"
    refine w_listT ht1 fun l1 H3 n3 c3 hl1 => ?_
    walk_at "go"
    rw [cut_from, ivs, ← List.map_drop] at hl1
    refine w_cat ((c2.trans c3).at0 hD) hl1 (by walk_at "sz") fun l2 H4 n4 c4 hl2 => ?_
    walk_at "go"
    refine w_slT (((c.trans c2).trans c3).trans c4 |>.sqT hq) fun t2 H5 c5 ht2 => ?_
    walk_at "go"
    refine w_listT ht2 fun l3 H6 n6 c6 hl3 => ?_
    walk_at "go"
    rw [cut_from, ivs, ← List.map_drop] at hl3
    refine w_cat ((c5.trans c6).at0 hl2) hl3 (by walk_at "sz") fun l4 H7 n7 c7 hl4 => ?_
    walk_at "go"
    refine ⟨l4, padd p r, rfl, ?_, by rw [padd_len]; omega, fun t H8 c8 ht => q _ _ ((((((c.trans c2).trans c3).trans c4).trans c5).trans c6).trans c7 |>.trans c8) ht⟩
    rw [hl4, ← padd_cut p r, ivs, List.map_append, List.map_append, List.map_map]
    rfl
/-! ### row_minus -/
abbrev s_row_minus : Stmt := topS 13
theorem sc_row_minus : FnScope ["p", "q"] ["p", "q"] (defScope s_row_minus) := ⟨rfl, rfl, rfl, by decide +kernel, rfl, by decide +kernel, by decide +kernel⟩
def sp_row_minus (K : PySem.W.Frag) : Sp := fun vs H Q _ => ∃ (a b : Addr) (p r : List Int), vs = [.ref a, .ref b] ∧ SqT K H a (ivs p) ∧ SqT K H b (ivs r) ∧ p.length ≤ 1000 ∧ r.length ≤ 1000 ∧ RetT K H Q (trim (padd p (r.map fun c => c * -1)))
theorem c_row_minus (C_row_plus : Cal P w K mg base 2 "row_plus" (sp_row_plus K)) (C_row_scale : Cal P w K mg base 1 "row_scale" (sp_row_scale K)) {f : Addr} {fd : FuncData} (F : DefF K mg "row_minus" s_row_minus ["p", "q"] f fd) : Cal P w K mg base 3 "row_minus" (sp_row_minus K) := by
  refine cal_of F sc_row_minus (fun vs H Q E h => by obtain ⟨_, _, _, _, rfl, _⟩ := h; rfl) (fun cdv A outer s H vs Q E hr h => ?_)
  obtain ⟨a, b, p, r, rfl, hp, hq, hlp, hlr, q⟩ := h
  refine ⟨_, (pss_one (ps_ret (pe_cc C_row_plus hr (by decide) (by rfl) (pa_cons (pv 0) (pa_cons (pe_cc C_row_scale hr (by decide) (by rfl) (pa_cons (pv 1) (pa_cons (pe_un un_neg pe_int) pa_nil))) pa_nil))))), ?_⟩
  refine w_start (σ := [some _, some _]) rfl ?_
  walk_at "go"
  refine ⟨b, r, -1, rfl, hq, by omega, by decide, by decide, fun t H1 c1 ht => ?_⟩
  walk_at "go"
  exact ⟨a, t, p, _, rfl, c1.sqT hp, ht, hlp, by rw [List.length_map]; exact hlr, fun t2 H2 c2 ht2 => q _ _ (c1.trans c2) ht2⟩
/-! ### row_slope -/
abbrev s_row_slope : Stmt := topS 15
theorem sc_row_slope : FnScope ["p", "k"] ["p"] (defScope s_row_slope) := ⟨rfl, rfl, rfl, by decide +kernel, rfl, by decide +kernel, by decide +kernel⟩
def slope (p : List Int) : List Int := (List.range (p.length - 1)).map fun (k : Nat) => ((1 : Int) + (k : Int)) * coef p (k + 1)
def sp_row_slope (K : PySem.W.Frag) : Sp := fun vs H Q _ => ∃ (a : Addr) (p : List Int), vs = [.ref a] ∧ SqT K H a (ivs p) ∧ p.length ≤ 1000 ∧ RetT K H Q (slope p)
theorem c_row_slope (T : Txt mg) {f : Addr} {fd : FuncData} (F : DefF K mg "row_slope" s_row_slope ["p"] f fd) : Cal P w K mg base 1 "row_slope" (sp_row_slope K) := by
  refine cal_of F sc_row_slope (fun vs H Q E h => by obtain ⟨_, _, rfl, _⟩ := h; rfl) (fun cdv A outer s H vs Q E hr h => ?_)
  obtain ⟨a, p, rfl, hp, hl, q⟩ := h
  refine ⟨_, (pss_one (ps_ret (pe_callTy (k_tuple (K := K) rfl) (by rfl) T.z_tuple (by decide +kernel) (pa_cons (pe_lc (own := [("k", 1)]) (g := gName 1) rfl sc_row_slope.nd (pi_range2 (by rfl) T.z_range (pa_cons pe_int (pa_cons (pe_callB (k_len (K := K) rfl) (by rfl) T.z_len PySem.boot_len (pa_cons (pv 0) pa_nil)) pa_nil))) (blkOk_by (own := [("k", 1)]) (N := ["p", "k"]) (sc := defScope s_row_slope) (by decide +kernel)) (fun _ _ _ _ _ => pg_name (i := 1) sc_row_slope.nd rfl (Or.inl rfl)) (fun _ _ _ _ _ => pts_nil) (fun _ _ _ _ _ => (pe_op op_mulG (pv 1) (pe_ix (k_ixT (K := K) rfl) (pv 0) (pv 1) (fun _ _ => rfl))))) pa_nil)))), ?_⟩
  refine w_start (σ := [some _, none]) rfl ?_
  walk_at "go"
  refine w_lenTi hp ?_
  walk_at "go"
  refine w_iR2r ⟨by decide, by decide, by omega, by omega⟩ ?_
  have e : ((p.length : Int) - 1).toNat = p.length - 1 := by omega
  rw [e]
  refine lc_R (n := p.length - 1) (fun k : Nat => .int (((1 : Int) + (k : Int)) * coef p (k + 1))) rfl (by omega) (fun k H1 hk c S kk => ?_) (fun D H1 nD c hD => ?_)
  · walk_at "go"
    refine w_ixTi (k := k + 1) (c.sqT hp) (by omega) (get_coef (by omega)) ?_
    walk_at "go"
    refine w_mull (by omega) ?_
    exact kk _ .refl
  · walk_at "go"
    refine w_tupleL (.of hD) fun t H2 nt c2 ht => ?_
    refine q _ _ (c.trans c2) (.of ?_)
    rw [ht, ivs, slope, List.map_map]
    rfl
/-! ### row_times: the loops -/
theorem zeros_map (n : Nat) : (List.range n).map (fun _ => V.int 0) = ivs (List.replicate n 0) := by
  rw [ivs, List.map_replicate, List.map_const', List.length_range]
abbrev s_row_times : Stmt := topS 14
theorem sc_row_times : FnScope ["p", "q", "product", "i", "a", "j", "b", "_"] ["p", "q"] (defScope s_row_times) := ⟨rfl, rfl, rfl, by decide +kernel, rfl, by decide +kernel, by decide +kernel⟩
/-- after i rows and j items of the next one -/
def Acc (p q l : List Int) (i j : Nat) : Prop := l.length = p.length + q.length - 1 ∧ ∀ k, coef l k = coef (pmul (p.take i) q) k + (if i ≤ k then coef p i * coef (q.take j) (k - i) else 0)
theorem acc_zero (p q : List Int) : Acc p q (List.replicate (p.length + q.length - 1) 0) 0 0 := by
  refine ⟨List.length_replicate, fun k => ?_⟩
  rw [coef_rep, List.take_zero, List.take_zero]
  have e : coef (pmul [] q) k = 0 := coef_nil k
  rw [e, coef_nil]
  split <;> omega
theorem acc_next {p q l : List Int} {i : Nat} (h : Acc p q l i q.length) (hi : i < p.length) : Acc p q l (i + 1) 0 := by
  refine ⟨h.1, fun k => ?_⟩
  rw [h.2 k, coef_pmul_take hi, List.take_length, List.take_zero, coef_nil]
  split <;> split <;> omega
theorem acc_step {p q l : List Int} {i j : Nat} (h : Acc p q l i j) (hi : i < p.length) (hj : j < q.length) : Acc p q (l.set (i + j) (coef l (i + j) + coef p i * coef q j)) i (j + 1) := by
  refine ⟨by rw [List.length_set]; exact h.1, fun k => ?_⟩
  have hlt : i + j < l.length := by
    rw [h.1]
    omega
  rw [coef_set hlt]
  by_cases c : k = i + j
  · subst c
    rw [if_pos rfl, h.2, if_pos (by omega), if_pos (by omega), coef_take, coef_take, show i + j - i = j by omega, if_neg (by omega), if_pos (by omega)]
    omega
  · rw [if_neg c, h.2]
    congr 1
    by_cases c2 : i ≤ k
    · rw [if_pos c2, if_pos c2, coef_take, coef_take]
      by_cases c3 : k - i < j
      · rw [if_pos c3, if_pos (by omega)]
      · rw [if_neg c3, if_neg (by omega)]
    · rw [if_neg c2, if_neg c2]
theorem acc_end {p q l : List Int} (h : Acc p q l p.length 0) (k : Nat) : coef l k = coef (pmul p q) k := by
  rw [h.2 k, List.take_length, List.take_zero, coef_nil]
  split <;> omega
def sp_row_times (K : PySem.W.Frag) : Sp := fun vs H Q _ => ∃ (a b : Addr) (p r : List Int) (n : Nat), vs = [.ref a, .ref b] ∧ SqT K H a (ivs p) ∧ SqT K H b (ivs r) ∧ p.length ≤ 1000 ∧ r.length ≤ 1000 ∧ Fit n p ∧ Fit n r ∧ n ≤ 50000000 ∧
  ((p = [] ∨ r = []) → RetT K H Q []) ∧ (p ≠ [] → r ≠ [] → ∀ l : List Int, l.length = p.length + r.length - 1 → (∀ k, coef l k = coef (pmul p r) k) → RetT K H Q l)
theorem c_row_times (T : Txt mg) {f : Addr} {fd : FuncData} (F : DefF K mg "row_times" s_row_times ["p", "q"] f fd) : Cal P w K mg base 1 "row_times" (sp_row_times K) := by
  refine cal_of F sc_row_times (fun vs H Q E h => by obtain ⟨_, _, _, _, _, rfl, _⟩ := h; rfl) (fun cdv A outer s H vs Q E hr h => ?_)
  obtain ⟨a, b, p, r, n, rfl, hp, hq, hlp, hlr, fp, fr, hn, q0, q1⟩ := h
  refine ⟨_, (pss_cons (ps_if (PW.pt (pw_or (pt_cmpR op_eq (pe_callB (k_len (K := K) rfl) (by rfl) T.z_len PySem.boot_len (pa_cons (pv 0) pa_nil)) pe_int (nomark _)) (pw_or1 (pt_cmpR op_eq (pe_callB (k_len (K := K) rfl) (by rfl) T.z_len PySem.boot_len (pa_cons (pv 1) pa_nil)) pe_int (nomark _))))) (pss_one (ps_ret (pe_tup pa_nil))) pss_nil)
 (pss_cons (ps_setLc (i := 2) (own := [("_", 7)]) (g := gName 7) rfl sc_row_times.nd rfl rfl (sw_true rfl rfl rfl (by decide +kernel)) (pi_range1 (by rfl) T.z_range (pa_cons (pe_op op_sub (pe_op op_add (pe_callB (k_len (K := K) rfl) (by rfl) T.z_len PySem.boot_len (pa_cons (pv 0) pa_nil)) (pe_callB (k_len (K := K) rfl) (by rfl) T.z_len PySem.boot_len (pa_cons (pv 1) pa_nil))) pe_int) pa_nil)) (blkOk_by (own := [("_", 7)]) (N := ["p", "q", "product", "i", "a", "j", "b", "_"]) (sc := defScope s_row_times) (by decide +kernel)) (fun _ _ _ _ _ => pg_name (i := 7) sc_row_times.nd rfl (Or.inl rfl)) (fun _ _ _ _ _ => pts_nil) (fun _ _ _ _ _ => pe_int))
 (pss_cons (ps_for PassesOwn.never rfl (k_piE (K := K) rfl (by rfl) T.z_enumerate (pa_cons (pv 0) pa_nil)) (k_gtup (K := K) rfl rfl (pgs_cons (pg_name (i := 3) sc_row_times.nd rfl (Or.inl rfl)) (pgs_cons (pg_name (i := 4) sc_row_times.nd rfl (Or.inl rfl)) pgs_nil))) (pss_one (ps_for PassesOwn.never rfl (k_piE (K := K) rfl (by rfl) T.z_enumerate (pa_cons (pv 1) pa_nil)) (k_gtup (K := K) rfl rfl (pgs_cons (pg_name (i := 5) sc_row_times.nd rfl (Or.inl rfl)) (pgs_cons (pg_name (i := 6) sc_row_times.nd rfl (Or.inl rfl)) pgs_nil))) (pss_one (ps_asg (pe_op op_add (pe_ix (k_ixL (K := K) rfl) (pv 2) (pe_op op_add (pv 3) (pv 5)) (fun _ _ => rfl)) (pe_op op_mulG (pv 4) (pv 6))) (pg_sub (pv 2) (pe_op op_add (pv 3) (pv 5)) set_list))))))
 (pss_one (ps_ret (pe_callTy (k_tuple (K := K) rfl) (by rfl) T.z_tuple (by decide +kernel) (pa_cons (pv 2) pa_nil))))))), ?_⟩
  refine w_start (σ := [some _, some _, none, none, none, none, none, none]) rfl ?_
  walk_at "go"
  refine w_lenTi hp ?_
  walk_at "go"
  refine ite_d (fun h0 => ?_) (fun h0 => ?_)
  · walk_at "go"
    rw [if_pos rfl]
    walk_at "go"
    refine w_newT (by decide) fun t H1 n1 c1 ht => q0 (.inl (List.length_eq_zero_iff.mp (by omega))) _ _ c1 (.of ht)
  walk_at "go"
  refine w_lenTi hq ?_
  walk_at "go"
  refine ite_d (fun h1 => ?_) (fun h1 => ?_)
  · walk_at "go"
    refine w_newT (by decide) fun t H1 n1 c1 ht => q0 (.inr (List.length_eq_zero_iff.mp (by omega))) _ _ c1 (.of ht)
  have p0 : p ≠ [] := fun e => h0 (by rw [e]; rfl)
  have r0 : r ≠ [] := fun e => h1 (by rw [e]; rfl)
  have lp := List.length_pos_iff.mpr p0
  have lr := List.length_pos_iff.mpr r0
  walk_at "go"
  refine w_lenTi hp ?_
  walk_at "go"
  refine w_lenTi hq ?_
  walk_at "go"
  refine w_iR1r (by omega) (by omega) ?_
  have en : ((p.length : Int) + r.length - 1).toNat = p.length + r.length - 1 := by omega
  rw [en]
  refine lc_R (n := p.length + r.length - 1) (fun _ => .int 0) rfl (by omega) (fun k H1 hk c S kk => ?_) (fun D H1 nD c hD => ?_)
  · walk_at "go"
    exact kk _ .refl
  rw [zeros_map] at hD
  walk_at "go"
  refine w_iEr (c.sqT hp) ?_
  refine for_Ei (ns := p) (fun i σ H' => Ch [] H H' ∧ ∃ (l : List Int) (z3 z4 z5 z6 : Option V), σ = [some (.ref a), some (.ref b), some (.ref D), z3, z4, z5, z6, none] ∧ H' D = some (.lst (ivs l)) ∧ Acc p r l i 0)
    ⟨c, _, none, none, none, none, rfl, hD, acc_zero p r⟩ (fun i σ H' _ h => h.1.sqT hp) ?_ ?_
  · rintro i x σ H2 T2 H3 hx ⟨c2, l, z3, z4, z5, z6, rfl, hl, ac⟩ nT c3 hT
    have hi : i < p.length := (List.getElem?_eq_some_iff.mp hx).1
    have ex : coef p i = x := coef_get hx
    refine w_gtup (.of hT) rfl ?_
    walk_at "go"
    refine w_iEr ((c2.trans c3).sqT hq) ?_
    refine for_Ei (ns := r) (fun j σ H' => Ch [] H H' ∧ ∃ (l : List Int) (z5 z6 : Option V), σ = [some (.ref a), some (.ref b), some (.ref D), some (.int (i : Nat)), some (.int x), z5, z6, none] ∧ H' D = some (.lst (ivs l)) ∧ Acc p r l i j)
      ⟨c2.trans c3, l, z5, z6, rfl, c3.at0 hl, ac⟩ (fun j σ H' _ h => h.1.sqT hq) ?_ ?_
    · rintro j y σ H4 T4 H5 hy ⟨c4, l2, z7, z8, rfl, hl2, ac2⟩ nT4 c5 hT4
      have hj : j < r.length := (List.getElem?_eq_some_iff.mp hy).1
      have ey : coef r j = y := coef_get hy
      have hlt : i + j < l2.length := by
        rw [ac2.1]
        omega
      have hl5 := c5.at0 hl2
      refine w_gtup (.of hT4) rfl ?_
      walk_at "go"
      refine w_ixLi (k := i + j) hl5 (by omega) (get_coef hlt) ?_
      walk_at "go"
      have hpx := fp x (List.mem_of_getElem? hx)
      have hry := fr y (List.mem_of_getElem? hy)
      refine w_I (mul_ok hpx hry (by omega)) ?_
      walk_at "go"
      refine w_setL (k := i + j) hl5 (by omega) (by rw [List.length_map]; exact hlt) fun H6 c6 hl6 => ?_
      refine ⟨Ch.cut (c4.trans c5) nD c6, _, some (.int (j : Nat)), some (.int y), rfl, ?_, acc_step ac2 hi hj⟩
      rw [hl6, ex, ey, ivs, ivs, List.map_set]
    · rintro σ H4 ⟨c4, l2, z7, z8, rfl, hl2, ac2⟩
      exact ⟨c4, l2, some (.int (i : Nat)), some (.int x), z7, z8, rfl, hl2, acc_next ac2 hi⟩
  · rintro σ H2 ⟨c2, l, z3, z4, z5, z6, rfl, hl, ac⟩
    walk_at "go"
    refine w_tupleL (.of hl) fun t H3 n3 c3 ht => ?_
    exact q1 p0 r0 l ac.1 (acc_end ac) _ _ (c2.trans c3) (.of ht)
end
end My

namespace My
open PySem PySem.Spec PyProof.Rows L2
section
variable {P : Program} {w : World} {K : PySem.W.Frag} {mg : Str → Option Value} {base : Heap}
/-! ### fraction -/
def ratio (n d : Int) : List Int := [n / (Nat.gcd n.natAbs d.natAbs : Nat), d / (Nat.gcd n.natAbs d.natAbs : Nat)]
abbrev s_fraction : Stmt := topS 8
theorem sc_fraction : FnScope ["n", "d", "common"] ["n", "d"] (defScope s_fraction) := ⟨rfl, rfl, rfl, by decide +kernel, rfl, by decide +kernel, by decide +kernel⟩
def sp_fraction (K : PySem.W.Frag) : Sp := fun vs H Q _ => ∃ (n d : Int) (b : Nat), vs = [.int n, .int d] ∧ 0 < d ∧ d.natAbs < 2 ^ b ∧ b ≤ 9000 ∧ RetT K H Q (ratio n d)
theorem gcd_bd {n d : Int} {b : Nat} (hd : 0 < d) (hb : d.natAbs < 2 ^ b) : 0 < Nat.gcd n.natAbs d.natAbs ∧ ((Nat.gcd n.natAbs d.natAbs : Nat) : Int).natAbs < 2 ^ b := by
  have h0 : 0 < d.natAbs := by omega
  refine ⟨Nat.gcd_pos_of_pos_right _ h0, ?_⟩
  rw [Int.natAbs_natCast]
  exact Nat.lt_of_le_of_lt (Nat.gcd_le_right _ h0) hb
theorem c_fraction (T : Txt mg) {f : Addr} {fd : FuncData} (F : DefD K mg "fraction" s_fraction ["n", "d"] f fd) : Cal P w K mg base 1 "fraction" (sp_fraction K) := by
  refine cal_ofD F sc_fraction (fun vs H Q E h => by obtain ⟨_, _, _, rfl, _⟩ := h; rfl) (fun cdv A outer s H vs Q E hr h => ?_)
  obtain ⟨n, d, b, rfl, hd, hb, hb9, q⟩ := h
  refine ⟨_, (pss_cons (ps_if (pt_cmpR op_eq (pv 1) pe_int (nomark _)) (pss_one ps_never) pss_nil)
 (pss_cons (ps_set (i := 2) sc_fraction.nd rfl (Or.inl rfl) (pe_callBfun cr_gcd (by rfl) T.m_gcd (pa_cons (pv 0) (pa_cons (pv 1) pa_nil))))
 (pss_cons (ps_if (pt_cmpR op_lt (pv 1) pe_int (nomark _)) (pss_one (ps_set (i := 2) sc_fraction.nd rfl (Or.inl rfl) (pe_un un_neg (pv 2)))) pss_nil)
 (pss_one (ps_ret (pe_tup (pa_cons (pe_op op_fdivG (pv 0) (pv 2)) (pa_cons (pe_op op_fdivG (pv 1) (pv 2)) pa_nil)))))))), ?_⟩
  refine w_start (σ := [some _, some _, none]) rfl ?_
  obtain ⟨g0, gb⟩ := gcd_bd (n := n) hd hb
  walk_at "go"
  refine ite_df (by omega) ?_
  walk_at "go"
  refine ite_df (by omega) ?_
  walk_at "go"
  refine w_I (div_ok (by omega) gb hb9) ?_
  walk_at "go"
  refine w_I (div_ok (by omega) gb hb9) ?_
  walk_at "go"
  refine w_newT (show 2 ≤ sizeLine by decide) fun t H1 n1 c1 ht => q _ _ c1 (.of ?_)
  rw [ht, Int.fdiv_eq_ediv_of_nonneg _ (by omega), Int.fdiv_eq_ediv_of_nonneg _ (by omega)]
  rfl
/-! ### _scaled_value -/
def horner (n d : Int) : List Int → Int
  | [] => 0
  | c :: r => horner n d r * n + c * d ^ r.length
theorem horner_drop {n d : Int} {p : List Int} {i : Nat} (h : i < p.length) : horner n d (p.drop i) = horner n d (p.drop (i + 1)) * n + coef p i * d ^ (p.length - (i + 1)) := by
  rw [List.drop_eq_getElem_cons h, horner, List.length_drop, coef_lt h]
theorem abs_add_lt {x y : Int} {a : Nat} (hx : x.natAbs < 2 ^ a) (hy : y.natAbs < 2 ^ a) : (x + y).natAbs < 2 ^ (a + 1) := by
  rw [Nat.pow_succ]
  omega
theorem abs_mono {x : Int} {a b : Nat} (hx : x.natAbs < 2 ^ a) (h : a ≤ b) : x.natAbs < 2 ^ b := Nat.lt_of_lt_of_le hx (Nat.pow_le_pow_right (by decide) h)
theorem horner_bd {n d : Int} {m : Nat} (hn : n.natAbs < 2 ^ m) (hd : d.natAbs < 2 ^ m) : ∀ p : List Int, Fit m p → (horner n d p).natAbs < 2 ^ ((m + 2) * p.length + 1)
  | [], _ => by
    show (0 : Int).natAbs < _
    exact Nat.two_pow_pos _
  | c :: r, h => by
    have ih := horner_bd hn hd r fun x hx => h x (List.mem_cons_of_mem _ hx)
    have hc := h c (List.mem_cons_self ..)
    have h1 := wide_lt ih hn
    have h2 := wide_lt hc (abs_pow_lt (s := r.length) hd)
    have e1 : (m + 2) * r.length + 1 + m ≤ (m + 2) * r.length + m + 2 := by omega
    have e2 : m + (m * r.length + 1) ≤ (m + 2) * r.length + m + 2 := by
      rw [Nat.add_mul]
      omega
    have h3 := abs_add_lt (abs_mono h1 e1) (abs_mono h2 e2)
    rw [List.length_cons, Nat.mul_add, Nat.mul_one]
    exact abs_mono h3 (by omega)
abbrev s__scaled_value : Stmt := topS 16
theorem sc__scaled_value : FnScope ["p", "a", "n", "d", "total", "scale", "c"] ["p", "a"] (defScope s__scaled_value) := ⟨rfl, rfl, rfl, by decide +kernel, rfl, by decide +kernel, by decide +kernel⟩
def sp__scaled_value (K : PySem.W.Frag) : Sp := fun vs H Q _ => ∃ (a b : Addr) (p : List Int) (n d : Int) (m : Nat), vs = [.ref a, .ref b] ∧ SqT K H a (ivs p) ∧ SqT K H b (ivs [n, d]) ∧ p.length ≤ 1000 ∧ n.natAbs < 2 ^ m ∧ d.natAbs < 2 ^ m ∧ Fit m p ∧ m ≤ 10000 ∧ RetT K H Q [horner n d p * d, d ^ p.length]
theorem c__scaled_value (T : Txt mg) {f : Addr} {fd : FuncData} (F : DefF K mg "_scaled_value" s__scaled_value ["p", "a"] f fd) : Cal P w K mg base 1 "_scaled_value" (sp__scaled_value K) := by
  refine cal_of F sc__scaled_value (fun vs H Q E h => by obtain ⟨_, _, _, _, _, _, rfl, _⟩ := h; rfl) (fun cdv A outer s H vs Q E hr h => ?_)
  obtain ⟨a, b, p, n, d, m, rfl, hp, hb, hl, hn, hd, fp, hm, q⟩ := h
  refine ⟨_, (pss_cons (ps_asg (pv 1) (k_gtup (K := K) rfl rfl (pgs_cons (pg_name (i := 2) sc__scaled_value.nd rfl (Or.inl rfl)) (pgs_cons (pg_name (i := 3) sc__scaled_value.nd rfl (Or.inl rfl)) pgs_nil))))
 (pss_cons (ps_set (i := 4) sc__scaled_value.nd rfl (Or.inl rfl) pe_int)
 (pss_cons (ps_set (i := 5) sc__scaled_value.nd rfl (Or.inl rfl) pe_int)
 (pss_cons (ps_for PassesOwn.never rfl (k_piV (K := K) rfl (by rfl) T.z_reversed (pv 0)) (pg_name (i := 6) sc__scaled_value.nd rfl (Or.inl rfl)) (pss_cons (ps_set (i := 4) sc__scaled_value.nd rfl (Or.inl rfl) (pe_op op_add (pe_op op_mulG (pv 4) (pv 2)) (pe_op op_mulG (pv 6) (pv 5))))
 (pss_one (ps_set (i := 5) sc__scaled_value.nd rfl (Or.inl rfl) (pe_op op_mulG (pv 5) (pv 3))))))
 (pss_one (ps_ret (pe_tup (pa_cons (pe_op op_mulG (pv 4) (pv 3)) (pa_cons (pv 5) pa_nil))))))))), ?_⟩
  refine w_start (σ := [some _, some _, none, none, none, none, none]) rfl ?_
  walk_at "go"
  refine w_gtup (xs := [.int n, .int d]) hb rfl ?_
  walk_at "go"
  refine w_iVr hp ?_
  have hmp : ∀ i : Nat, i ≤ 1000 → (m + 2) * i ≤ 10002000 := fun i hi => Nat.le_trans (Nat.mul_le_mul (show m + 2 ≤ 10002 by omega) hi) (by decide)
  have hmp2 : ∀ i : Nat, i ≤ 1000 → m * i ≤ 10000000 := fun i hi => Nat.le_trans (Nat.mul_le_mul hm hi) (by decide)
  have hbd : ∀ i : Nat, (horner n d (p.drop i)).natAbs < 2 ^ ((m + 2) * p.length + 1) := fun i => abs_mono (horner_bd hn hd _ fun x hx => fp x (List.mem_of_mem_drop hx)) (by
    have := Nat.mul_le_mul_left (m + 2) (show (p.drop i).length ≤ p.length by rw [List.length_drop]; omega)
    omega)
  have hpw : ∀ i : Nat, (d ^ i).natAbs < 2 ^ (m * i + 1) := fun i => abs_pow_lt hd
  refine for_Vi (ns := p) (fun i σ H' => H' = H ∧ ∃ z, σ = [some (.ref a), some (.ref b), some (.int n), some (.int d), some (.int (horner n d (p.drop (p.length - i)))), some (.int (d ^ i)), z])
    ⟨rfl, none, ?_⟩ (fun i σ H' h => by rw [h.1]; exact hp) ?_ ?_
  · rw [Nat.sub_zero, List.drop_length, Int.pow_zero]
    rfl
  · rintro i x σ H' hi hx ⟨rfl, z, rfl⟩
    have ex : coef p (p.length - 1 - i) = x := coef_get hx
    have l1 := hmp p.length hl
    have l2 := hmp2 i (by omega)
    walk_at "go"
    refine w_I (mul_ok (hbd _) hn (by omega)) ?_
    walk_at "go"
    refine w_I (mul_ok (fp x (List.mem_of_getElem? hx)) (hpw i) (by omega)) ?_
    walk_at "go"
    refine w_I (mul_ok (hpw i) hd (by omega)) ?_
    refine ⟨rfl, some (.int x), ?_⟩
    have e1 : p.length - (i + 1) = p.length - 1 - i := by omega
    rw [e1, horner_drop (show p.length - 1 - i < p.length by omega), ex, show p.length - 1 - i + 1 = p.length - i by omega, show p.length - (p.length - i) = i by omega, Int.pow_succ]
    rfl
  · rintro σ H' ⟨rfl, z, rfl⟩
    walk_at "go"
    have l1 := hmp p.length hl
    refine w_I (mul_ok (hbd _) hd (by omega)) ?_
    walk_at "go"
    refine w_newT (show 2 ≤ sizeLine by decide) fun t H1 n1 c1 ht => q _ _ c1 (.of ?_)
    rw [ht, Nat.sub_self, List.drop_zero]
    rfl
/-! ### row_value -/
abbrev s_row_value : Stmt := topS 17
theorem sc_row_value : FnScope ["p", "a", "total", "scale"] ["p", "a"] (defScope s_row_value) := ⟨rfl, rfl, rfl, by decide +kernel, rfl, by decide +kernel, by decide +kernel⟩
def sp_row_value (K : PySem.W.Frag) : Sp := fun vs H Q _ => ∃ (a b : Addr) (p : List Int) (n d : Int) (m : Nat), vs = [.ref a, .ref b] ∧ SqT K H a (ivs p) ∧ SqT K H b (ivs [n, d]) ∧ p.length ≤ 1000 ∧ n.natAbs < 2 ^ m ∧ d.natAbs < 2 ^ m ∧ 0 < d ∧ Fit m p ∧ m * p.length + 1 ≤ 9000 ∧ m ≤ 9000 ∧ RetT K H Q (ratio (horner n d p * d) (d ^ p.length))
theorem c_row_value (C__scaled_value : Cal P w K mg base 1 "_scaled_value" (sp__scaled_value K)) (C_fraction : Cal P w K mg base 1 "fraction" (sp_fraction K)) {f : Addr} {fd : FuncData} (F : DefF K mg "row_value" s_row_value ["p", "a"] f fd) : Cal P w K mg base 2 "row_value" (sp_row_value K) := by
  refine cal_of F sc_row_value (fun vs H Q E h => by obtain ⟨_, _, _, _, _, _, rfl, _⟩ := h; rfl) (fun cdv A outer s H vs Q E hr h => ?_)
  obtain ⟨a, b, p, n, d, m, rfl, hp, hb, hl, hn, hd, hd0, fp, hm, hm9, q⟩ := h
  refine ⟨_, (pss_cons (ps_asg (pe_cc C__scaled_value hr (by decide) (by rfl) (pa_cons (pv 0) (pa_cons (pv 1) pa_nil))) (k_gtup (K := K) rfl rfl (pgs_cons (pg_name (i := 2) sc_row_value.nd rfl (Or.inl rfl)) (pgs_cons (pg_name (i := 3) sc_row_value.nd rfl (Or.inl rfl)) pgs_nil))))
 (pss_one (ps_ret (pe_cc C_fraction hr (by decide) (by rfl) (pa_cons (pv 2) (pa_cons (pv 3) pa_nil)))))), ?_⟩
  refine w_start (σ := [some _, some _, none, none]) rfl ?_
  walk_at "go"
  refine ⟨a, b, p, n, d, m, rfl, hp, hb, hl, hn, hd, fp, by omega, fun t H1 c1 ht => ?_⟩
  walk_at "go"
  refine w_gtup (xs := [.int _, .int _]) ht rfl ?_
  walk_at "go"
  exact ⟨_, _, _, rfl, Int.pow_pos hd0, abs_pow_lt hd, hm, fun t2 H2 c2 ht2 => q _ _ (c1.trans c2) ht2⟩
/-! ### row_primitive -/
theorem gcdL_le : ∀ (p : List Int) (g : Nat), p.foldl (fun g x => Nat.gcd g x.natAbs) g ∣ g ∧ ∀ x ∈ p, p.foldl (fun g x => Nat.gcd g x.natAbs) g ∣ x.natAbs
  | [], g => ⟨Nat.dvd_refl _, fun x h => by simp at h⟩
  | a :: p, g => by
    obtain ⟨h1, h2⟩ := gcdL_le p (Nat.gcd g a.natAbs)
    refine ⟨Nat.dvd_trans h1 (Nat.gcd_dvd_left _ _), fun x hx => ?_⟩
    rcases List.mem_cons.mp hx with e | hx
    · rw [e]
      exact Nat.dvd_trans h1 (Nat.gcd_dvd_right _ _)
    · exact h2 x hx
theorem gcdL_pos {p : List Int} (hp : IsRow p) (h0 : p ≠ []) {n : Nat} (f : Fit n p) : 0 < gcdL p ∧ gcdL p < 2 ^ n := by
  have hl := (isRow_iff.mp hp).resolve_left h0
  have lp := List.length_pos_iff.mpr h0
  have hm : coef p (p.length - 1) ∈ p := coef_mem (by omega)
  have d := (gcdL_le p 0).2 _ hm
  have pos : 0 < (coef p (p.length - 1)).natAbs := by omega
  exact ⟨Nat.pos_of_dvd_of_pos d pos, Nat.lt_of_le_of_lt (Nat.le_of_dvd pos d) (f _ hm)⟩
/-- with the sign of the last coefficient -/
def content (p : List Int) : Int := if coef p (p.length - 1) < 0 then -(gcdL p : Int) else (gcdL p : Int)
abbrev s_row_primitive : Stmt := topS 18
theorem sc_row_primitive : FnScope ["p", "content", "c"] ["p"] (defScope s_row_primitive) := ⟨rfl, rfl, rfl, by decide +kernel, rfl, by decide +kernel, by decide +kernel⟩
def sp_row_primitive (K : PySem.W.Frag) : Sp := fun vs H Q _ => ∃ (a : Addr) (p : List Int) (n : Nat), vs = [.ref a] ∧ SqT K H a (ivs p) ∧ IsRow p ∧ p.length ≤ 1000 ∧ Fit n p ∧ n ≤ 9000 ∧
  ∀ t u H', Ch [] H H' → SqT K H' t [.int (content p), .ref u] → SqT K H' u (ivs (p.map fun c => c.fdiv (content p))) → Q (.ref t) H'
theorem last_at {p : List Int} (h0 : p ≠ []) : atI (ivs p) (-1) = some (.int (coef p (p.length - 1))) := by
  have lp := List.length_pos_iff.mpr h0
  unfold atI ixN
  rw [List.length_map, if_neg (by decide), if_pos (by omega)]
  have e : (-1 + (p.length : Int)).toNat = p.length - 1 := by omega
  show (ivs p)[(-1 + (p.length : Int)).toNat]? = _
  rw [e, ivs_get (get_coef (by omega))]
theorem c_row_primitive (T : Txt mg) (C_gcd_of : Cal P w K mg base 1 "gcd_of" (sp_gcd_of K)) {f : Addr} {fd : FuncData} (F : DefF K mg "row_primitive" s_row_primitive ["p"] f fd) : Cal P w K mg base 2 "row_primitive" (sp_row_primitive K) := by
  refine cal_of F sc_row_primitive (fun vs H Q E h => by obtain ⟨_, _, _, rfl, _⟩ := h; rfl) (fun cdv A outer s H vs Q E hr h => ?_)
  obtain ⟨a, p, n, rfl, hp, rp, hl, fp, hn, q⟩ := h
  refine ⟨_, (pss_cons (ps_if (pt_cmpR op_eq (pe_callB (k_len (K := K) rfl) (by rfl) T.z_len PySem.boot_len (pa_cons (pv 0) pa_nil)) pe_int (nomark _)) (pss_one (ps_ret (pe_tup (pa_cons pe_int (pa_cons (pe_tup pa_nil) pa_nil))))) pss_nil)
 (pss_cons (ps_set (i := 1) sc_row_primitive.nd rfl (Or.inr rfl) (pe_cc C_gcd_of hr (by decide) (by rfl) (pa_cons (pv 0) pa_nil)))
 (Evl.pss_cut (ps_if (pt_cmpR op_lt (pe_ix (k_ixT (K := K) rfl) (pv 0) (pe_un un_neg pe_int) (fun _ _ => rfl)) pe_int (nomark _)) (pss_one (ps_set (i := 1) sc_row_primitive.nd rfl (Or.inr rfl) (pe_un un_neg (pv 1)))) pss_nil)
 (pss_one (ps_ret (pe_tup (pa_cons (pv 1) (pa_cons (pe_callTy (k_tuple (K := K) rfl) (by rfl) T.z_tuple (by decide +kernel) (pa_cons (pe_lc (own := [("c", 2)]) (g := gName 2) rfl sc_row_primitive.nd (k_piT (K := K) rfl (pv 0)) (blkOk_by (own := [("c", 2)]) (N := ["p", "content", "c"]) (sc := defScope s_row_primitive) (by decide +kernel)) (fun _ _ _ _ _ => pg_name (i := 2) sc_row_primitive.nd rfl (Or.inl rfl)) (fun _ _ _ _ _ => pts_nil) (fun _ _ _ _ _ => (pe_op op_fdivG (pv 2) (pv 1)))) pa_nil)) pa_nil)))))))), ?_⟩
  refine w_start (σ := [some _, none, none]) rfl ?_
  walk_at "go"
  refine w_lenTi hp ?_
  walk_at "go"
  refine ite_d (fun h0 => ?_) (fun h0 => ?_)
  · have e : p = [] := List.length_eq_zero_iff.mp (by omega)
    subst e
    walk_at "go"
    refine w_newT (Nat.zero_le _) fun u H1 n1 c1 hu => ?_
    walk_at "go"
    refine w_newT (show 2 ≤ sizeLine by decide) fun t H2 n2 c2 ht => q t u _ (c1.trans c2) (.of ht) (.of (c2.at0 hu))
  have p0 : p ≠ [] := fun e => h0 (by rw [e]; rfl)
  obtain ⟨g0, gb⟩ := gcdL_pos rp p0 fp
  walk_at "go"
  refine ⟨a, p, rfl, hp, ?_⟩
  walk_at "go"
  refine w_cut (M := fun σ' H' => H' = H ∧ σ' = [some (.ref a), some (.int (content p)), none]) ?_ ?_
  · walk_at "go"
    refine w_ixT hp (last_at p0) ?_
    walk_at "go"
    refine ite_d (fun h1 => ?_) (fun h1 => ?_)
    · walk_at "go"
      refine ⟨rfl, ?_⟩
      rw [content, if_pos h1]
      rfl
    · walk_at "go"
      refine ⟨rfl, ?_⟩
      rw [content, if_neg h1]
      rfl
  · rintro σ' H' ⟨rfl, rfl⟩
    walk_at "go"
    refine w_iTr hp ?_
    have c0 : content p ≠ 0 ∧ (content p).natAbs < 2 ^ n := by
      unfold content
      split <;> omega
    refine lc_Ti (fun x => .int (x.fdiv (content p))) rfl hp (by omega) (fun x H1 hx c S k => ?_) (fun D H1 nD c hD => ?_)
    · walk_at "go"
      refine w_I (div_ok c0.1 c0.2 hn) ?_
      exact k _ .refl
    · walk_at "go"
      refine w_tupleL (.of hD) fun u H2 n2 c2 hu => ?_
      walk_at "go"
      refine w_newT (show 2 ≤ sizeLine by decide) fun t H3 n3 c3 ht => q t u _ ((c.trans c2).trans c3) (.of ht) (.of ?_)
      rw [c3.at0 hu, ivs, List.map_map]
      rfl
end
end My

namespace My
open PySem PySem.Spec PyProof.Rows L2
section
variable {P : Program} {w : World} {K : PySem.W.Frag} {mg : Str → Option Value} {base : Heap}
/-! ### divide_row -/
abbrev s_divide_row : Stmt := topS 19
theorem sc_divide_row : FnScope ["p", "d", "shift", "last", "m", "rest", "found", "at", "many", "k", "c", "_"] ["p", "d"] (defScope s_divide_row) := ⟨rfl, rfl, rfl, by decide +kernel, rfl, by decide +kernel, by decide +kernel⟩
/-- what the law wants of a division -/
structure Quo (p d : List Int) (m : Int) (q r : List Int) : Prop where
  pw : m = ((coef d (d.length - 1)).natAbs : Int) ^ (p.length + 1 - d.length)
  rq : IsRow q
  rr : IsRow r
  len : r.length < d.length
  eq : ∀ k, m * coef p k = coef (pmul q d) k + coef r k
def sp_divide_row (K : PySem.W.Frag) (C : Addr) : Sp := fun vs H Q E => ∃ (a b : Addr) (p d : List Int) (n : Nat), vs = [.ref a, .ref b] ∧ SqT K H a (ivs p) ∧ SqT K H b (ivs d) ∧ IsRow p ∧ IsRow d ∧ p.length ≤ 100 ∧ d.length ≤ 100 ∧ Fit n p ∧ Fit n d ∧ n ≤ 9000 ∧
  (d = [] → E (.ref C) none H) ∧ (d ≠ [] → ∀ (m : Int) (q r : List Int) (t u v : Addr) (H' : Hp), Quo p d m q r → q.length ≤ p.length → (∃ z, Fit z q ∧ z ≤ 50000000) → Ch [] H H' → SqT K H' t [.int m, .ref u, .ref v] → SqT K H' u (ivs q) → SqT K H' v (ivs r) → Q (.ref t) H')
theorem c_divide_row (T : Txt mg) {C : Addr} (X_DivisionByZero : ExcF K mg "DivisionByZero" C) (C_whole_power : Cal P w K mg base 1 "whole_power" sp_whole_power) (C_make_row : Cal P w K mg base 1 "make_row" (sp_make_row K))
    {f : Addr} {fd : FuncData} (F : DefF K mg "divide_row" s_divide_row ["p", "d"] f fd) : Cal P w K mg base 2 "divide_row" (sp_divide_row K C) := by
  refine cal_ofX F sc_divide_row (fun vs H Q E h => by obtain ⟨_, _, _, _, _, rfl, _⟩ := h; rfl) (fun cdv A outer s H vs Q E hr h => ?_)
  obtain ⟨a, b, p, d, n, rfl, hp, hd, rp, rd, hlp, hld, fp, fd', hn, qE, q⟩ := h
  refine ⟨_, (pss_cons (ps_if (pt_cmpR op_eq (pe_callB (k_len (K := K) rfl) (by rfl) T.z_len PySem.boot_len (pa_cons (pv 1) pa_nil)) pe_int (nomark _)) (pss_one (ps_raise rfl (takes_of rfl rfl rfl rfl) (pmk_own0 PySem.F.excBase_ValueError X_DivisionByZero.xin X_DivisionByZero.gl X_DivisionByZero.kp (raises_own X_DivisionByZero.sub X_DivisionByZero.ty) (by rfl)))) pss_nil)
 (PSs.nox (pss_cons (ps_set (i := 2) sc_divide_row.nd rfl (Or.inl rfl) (pe_op op_sub (pe_callB (k_len (K := K) rfl) (by rfl) T.z_len PySem.boot_len (pa_cons (pv 0) pa_nil)) (pe_callB (k_len (K := K) rfl) (by rfl) T.z_len PySem.boot_len (pa_cons (pv 1) pa_nil))))
 (pss_cons (ps_if (pt_cmpR op_lt (pv 2) pe_int (nomark _)) (pss_one (ps_ret (pe_tup (pa_cons pe_int (pa_cons (pe_tup pa_nil) (pa_cons (pv 0) pa_nil)))))) pss_nil)
 (pss_cons (ps_set (i := 3) sc_divide_row.nd rfl (Or.inl rfl) (pe_ix (k_ixT (K := K) rfl) (pv 1) (pe_un un_neg pe_int) (fun _ _ => rfl)))
 (pss_cons (ps_set (i := 4) sc_divide_row.nd rfl (Or.inr rfl) (pe_cc C_whole_power hr (by decide) (by rfl) (pa_cons (pe_callB cb_abs (by rfl) T.z_abs (by decide +kernel) (pa_cons (pv 3) pa_nil)) (pa_cons (pe_op op_add (pv 2) pe_int) pa_nil))))
 (pss_cons (ps_setLc (i := 5) (own := [("c", 10)]) (g := gName 10) rfl sc_divide_row.nd rfl rfl (sw_true rfl rfl rfl (by decide +kernel)) (k_piT (K := K) rfl (pv 0)) (blkOk_by (own := [("c", 10)]) (N := ["p", "d", "shift", "last", "m", "rest", "found", "at", "many", "k", "c", "_"]) (sc := defScope s_divide_row) (by decide +kernel)) (fun _ _ _ _ _ => pg_name (i := 10) sc_divide_row.nd rfl (Or.inl rfl)) (fun _ _ _ _ _ => pts_nil) (fun _ _ _ _ _ => (pe_op op_mulG (pv 4) (pv 10))))
 (pss_cons (ps_setLc (i := 6) (own := [("_", 11)]) (g := gName 11) rfl sc_divide_row.nd rfl rfl (sw_true rfl rfl rfl (by decide +kernel)) (pi_range1 (by rfl) T.z_range (pa_cons (pe_op op_add (pv 2) pe_int) pa_nil)) (blkOk_by (own := [("_", 11)]) (N := ["p", "d", "shift", "last", "m", "rest", "found", "at", "many", "k", "c", "_"]) (sc := defScope s_divide_row) (by decide +kernel)) (fun _ _ _ _ _ => pg_name (i := 11) sc_divide_row.nd rfl (Or.inl rfl)) (fun _ _ _ _ _ => pts_nil) (fun _ _ _ _ _ => pe_int))
 (pss_cons (ps_for PassesOwn.never rfl (pi_range3 (by rfl) T.z_range (pa_cons (pv 2) (pa_cons (pe_un un_neg pe_int) (pa_cons (pe_un un_neg pe_int) pa_nil)))) (pg_name (i := 7) sc_divide_row.nd rfl (Or.inl rfl)) (pss_cons (ps_set (i := 8) sc_divide_row.nd rfl (Or.inl rfl) (pe_op op_fdivG (pe_ix (k_ixL (K := K) rfl) (pv 5) (pe_op op_sub (pe_op op_add (pv 7) (pe_callB (k_len (K := K) rfl) (by rfl) T.z_len PySem.boot_len (pa_cons (pv 1) pa_nil))) pe_int) (fun _ _ => rfl)) (pv 3)))
 (pss_cons (ps_asg (pv 8) (pg_sub (pv 6) (pv 7) set_list))
 (pss_one (ps_if (pt_cmpR op_ne (pv 8) pe_int (nomark _)) (pss_one (ps_for PassesOwn.never rfl (k_piE (K := K) rfl (by rfl) T.z_enumerate (pa_cons (pv 1) pa_nil)) (k_gtup (K := K) rfl rfl (pgs_cons (pg_name (i := 9) sc_divide_row.nd rfl (Or.inl rfl)) (pgs_cons (pg_name (i := 10) sc_divide_row.nd rfl (Or.inl rfl)) pgs_nil))) (pss_one (ps_asg (pe_op op_sub (pe_ix (k_ixL (K := K) rfl) (pv 5) (pe_op op_add (pv 7) (pv 9)) (fun _ _ => rfl)) (pe_op op_mulG (pv 8) (pv 10))) (pg_sub (pv 5) (pe_op op_add (pv 7) (pv 9)) set_list))))) pss_nil)))))
 (pss_one (ps_ret (pe_tup (pa_cons (pv 4) (pa_cons (pe_cc C_make_row hr (by decide) (by rfl) (pa_cons (pv 6) pa_nil)) (pa_cons (pe_cc C_make_row hr (by decide) (by rfl) (pa_cons (pv 5) pa_nil)) pa_nil))))))))))))))), ?_⟩
  refine w_start (σ := [some _, some _, none, none, none, none, none, none, none, none, none, none]) rfl ?_
  walk_at "go"
  refine w_lenTi hd ?_
  walk_at "go"
  refine ite_d (fun h0 => ?_) (fun h0 => ?_)
  · exact qE (List.length_eq_zero_iff.mp (by omega))
  have d0 : d ≠ [] := fun e => h0 (by rw [e]; rfl)
  have q := q d0
  have ld := List.length_pos_iff.mpr d0
  walk_at "go"
  refine w_lenTi hp ?_
  walk_at "go"
  refine w_lenTi hd ?_
  walk_at "go"
  refine ite_d (fun h1 => ?_) (fun h1 => ?_)
  · walk_at "go"
    refine w_newT (Nat.zero_le _) fun u H1 n1 c1 hu => ?_
    walk_at "go"
    refine w_newT (show 3 ≤ sizeLine by decide) fun t H2 n2 c2 ht => ?_
    refine q 1 [] p t u a _ ⟨?_, isRow_nil, rp, by omega, fun k => ?_⟩ (Nat.zero_le _) ⟨0, fun x hx => by simp at hx, by omega⟩ (c1.trans c2) (.of ht) (.of (c2.at0 hu)) ((c1.trans c2).sqT hp)
    · rw [show p.length + 1 - d.length = 0 by omega]
      rfl
    · have e : coef (pmul [] d) k = 0 := coef_nil k
      rw [e]
      omega
  obtain ⟨S, hS⟩ : ∃ S : Nat, p.length = S + d.length := ⟨p.length - d.length, by omega⟩
  have eS : (p.length : Int) - d.length = (S : Int) := by omega
  have hSp : p.length - d.length = S := by omega
  rw [eS]
  walk_at "go"
  refine w_ixT hd (last_at d0) ?_
  generalize hlast : coef d (d.length - 1) = last
  have hlf : last.natAbs < 2 ^ n := by
    rw [← hlast]
    exact fd' _ (coef_mem (by omega))
  have hl0 : last ≠ 0 := by
    rw [← hlast]
    exact (isRow_iff.mp rd).resolve_left d0
  walk_at "go"
  have hnS : n * (S + 1) ≤ 909000 := Nat.le_trans (Nat.mul_le_mul hn (show S + 1 ≤ 101 by omega)) (by decide)
  refine ⟨(last.natAbs : Int), S + 1, n, rfl, by rw [Int.natAbs_natCast]; exact hlf, by omega, by omega, ?_⟩
  generalize hm : ((last.natAbs : Nat) : Int) ^ (S + 1) = m
  have hmf : m.natAbs < 2 ^ (n * (S + 1) + 1) := by
    rw [← hm]
    exact abs_pow_lt (by rw [Int.natAbs_natCast]; exact hlf)
  walk_at "go"
  refine w_iTr hp ?_
  refine lc_Ti (fun x => .int (m * x)) rfl hp (by omega) (fun x H1 hx c S' k => ?_) (fun D1 H1 nD1 c1 hD1 => ?_)
  · walk_at "go"
    refine w_I (mul_ok hmf (fp x hx) (by omega)) ?_
    exact k _ .refl
  walk_at "go"
  refine w_iR1r (by omega) (by omega) ?_
  have eS1 : ((S : Int) + 1).toNat = S + 1 := by omega
  rw [eS1]
  refine lc_R (n := S + 1) (fun _ => .int 0) rfl (by omega) (fun k H2 hk c S' kk => ?_) (fun D2 H2 nD2 c2 hD2 => ?_)
  · walk_at "go"
    exact kk _ .refl
  rw [zeros_map] at hD2
  have hD1' : H2 D1 = some (.lst (ivs (p.map fun c => m * c))) := by
    rw [c2.at0 hD1, ivs, List.map_map]
    rfl
  have nD2H : H D2 = none := c1.free nD2
  have ne12 : D1 ≠ D2 := ne_of_none hD1 nD2
  walk_at "go"
  refine w_iR3r (RgC.neg (by omega) (by omega) (by decide) (by decide)) ?_
  have en : ((S : Int) - -1).toNat = S + 1 := by omega
  rw [en]
  let Bd : Nat → Nat := fun i => n * (S + 1) + 1 + n + i * (n + 1)
  have hBd : ∀ i, i ≤ S + 1 → Bd i ≤ 2000000 := fun i hi => by
    have : i * (n + 1) ≤ 909101 := Nat.le_trans (Nat.mul_le_mul (show i ≤ 101 by omega) (show n + 1 ≤ 9001 by omega)) (by decide)
    show n * (S + 1) + 1 + n + i * (n + 1) ≤ _
    omega
  refine for_C (fun i σ H' => Ch [] H H' ∧ ∃ (F r : List Int) (z7 z8 z9 z10 : Option V), σ = [some (.ref a), some (.ref b), some (.int (S : Int)), some (.int last), some (.int m), some (.ref D1), some (.ref D2), z7, z8, z9, z10, none] ∧
      H' D1 = some (.lst (ivs r)) ∧ H' D2 = some (.lst (ivs F)) ∧ Div p d F r m last.natAbs (S + 1 - i) ∧ Fit (Bd i) r ∧ Fit (Bd i) F) ?_ ?_ ?_
  · refine ⟨c1.trans c2, _, _, none, none, none, none, rfl, hD1', hD2, ?_, fun x hx => ?_, fun x hx => ?_⟩
    · have := Div.start (p := p) (d := d) (m := m) (l := (last.natAbs : Int)) ld (by omega) (by rw [hSp, hm]; exact Int.dvd_refl _)
      rw [hSp] at this
      exact this
    · obtain ⟨y, hy, rfl⟩ := List.mem_map.mp hx
      exact abs_mono (wide_lt hmf (fp y hy)) (by show _ ≤ n * (S + 1) + 1 + n + 0 * (n + 1); omega)
    · rw [(List.mem_replicate.mp hx).2]
      exact Nat.two_pow_pos _
  · rintro i σ H3 hi ⟨c3, F, r, z7, z8, z9, z10, rfl, h1', h2', dv, fr, fF⟩
    have eat : (S : Int) + (i : Int) * -1 = ((S - i : Nat) : Int) := by omega
    rw [eat]
    have dv' : Div p d F r m last.natAbs (S - i + 1) := by
      rw [show S - i + 1 = S + 1 - i by omega]
      exact dv
    walk_at "go"
    refine w_lenTi (c3.sqT hd) ?_
    walk_at "go"
    refine w_ixLi (k := S - i + d.length - 1) h1' (by omega) (get_coef (by rw [dv.rlen]; omega)) ?_
    walk_at "go"
    refine w_I (div_ok hl0 hlf hn) ?_
    generalize hmany : (coef r (S - i + d.length - 1)).fdiv last = many
    have mle := dv'.many_le hl0 rfl hmany.symm
    have fmany : many.natAbs < 2 ^ Bd i := Nat.lt_of_le_of_lt mle (fr.at (Nat.two_pow_pos _) _)
    walk_at "go"
    have lF : S - i < F.length := by
      rw [dv.flen]
      omega
    refine w_setL (k := S - i) h2' (by omega) (by rw [List.length_map]; exact lF) fun H4 c4 h4 => ?_
    have h4' : H4 D2 = some (.lst (ivs (F.set (S - i) many))) := by
      rw [h4, ivs, ivs, List.map_set]
    have h41 : H4 D1 = some (.lst (ivs r)) := c4.at1 ne12 h1'
    have c34 : Ch [] H H4 := Ch.cut c3 nD2H c4
    have hB1 : Bd (i + 1) = Bd i + (n + 1) := by
      show n * (S + 1) + 1 + n + (i + 1) * (n + 1) = n * (S + 1) + 1 + n + i * (n + 1) + (n + 1)
      rw [Nat.add_mul]
      omega
    have fF' : Fit (Bd (i + 1)) (F.set (S - i) many) := fun x hx => by
      rcases List.mem_or_eq_of_mem_set hx with e | e
      · exact abs_mono (fF x e) (by omega)
      · rw [e]
        exact abs_mono fmany (by omega)
    have fin : ∀ r' : List Int, r'.length = p.length → (∀ k, coef r' k = coef r k - (if S - i ≤ k then many * coef d (k - (S - i)) else 0)) → Div p d (F.set (S - i) many) r' m last.natAbs (S + 1 - (i + 1)) ∧ Fit (Bd (i + 1)) r' := fun r' hr hr' => by
      refine ⟨?_, fun x hx => ?_⟩
      · have := dv'.step (r' := r') ld hlast hl0 rfl (by omega) hmany.symm hr hr'
        rw [show S + 1 - (i + 1) = S - i by omega]
        exact this
      · obtain ⟨k, hk, rfl⟩ := List.getElem_of_mem hx
        rw [← coef_lt hk, hr']
        have f1 : (coef r k).natAbs < 2 ^ (Bd i + n) := abs_mono (fr.at (Nat.two_pow_pos _) k) (by omega)
        have f2 : (if S - i ≤ k then many * coef d (k - (S - i)) else 0).natAbs < 2 ^ (Bd i + n) := by
          split
          · exact wide_lt fmany (fd'.at (Nat.two_pow_pos _) _)
          · exact Nat.two_pow_pos _
        have f3 := abs_add_lt f1 (show (-(if S - i ≤ k then many * coef d (k - (S - i)) else 0)).natAbs < 2 ^ (Bd i + n) by rw [Int.natAbs_neg]; exact f2)
        rw [Int.sub_eq_add_neg]
        exact abs_mono f3 (by omega)
    walk_at "go"
    refine ite_nd (fun hm0 => ?_) (fun hm0 => ?_)
    · walk_at "go"
      refine w_iEr (c34.sqT hd) ?_
      refine for_Ei (ns := d) (fun j σ H' => Ch [] H H' ∧ ∃ (r' : List Int) (z9 z10 : Option V), σ = [some (.ref a), some (.ref b), some (.int (S : Int)), some (.int last), some (.int m), some (.ref D1), some (.ref D2), some (.int ((S - i : Nat) : Int)), some (.int many), z9, z10, none] ∧
          H' D1 = some (.lst (ivs r')) ∧ H' D2 = some (.lst (ivs (F.set (S - i) many))) ∧ r'.length = p.length ∧ ∀ k, coef r' k = coef r k - (if S - i ≤ k then many * coef (d.take j) (k - (S - i)) else 0))
        ⟨c34, r, z9, z10, rfl, h41, h4', dv.rlen, fun k => by rw [List.take_zero, coef_nil]; split <;> omega⟩ (fun j σ H' _ h => h.1.sqT hd) ?_ ?_
      · rintro j y σ H5 T5 H6 hy ⟨c5, r', z11, z12, rfl, h51, h52, lr', hr'⟩ nT5 c6 hT6
        have hj : j < d.length := (List.getElem?_eq_some_iff.mp hy).1
        have ey : coef d j = y := coef_get hy
        have h61 := c6.at0 h51
        have h62 := c6.at0 h52
        have hlt : S - i + j < r'.length := by
          rw [lr']
          omega
        refine w_gtup (xs := [.int _, .int _]) (.of hT6) rfl ?_
        walk_at "go"
        refine w_ixLi (k := S - i + j) h61 (by omega) (get_coef hlt) ?_
        walk_at "go"
        have hB := hBd i (by omega)
        refine w_I (mul_ok fmany (fd' y (List.mem_of_getElem? hy)) (by omega)) ?_
        walk_at "go"
        refine w_setL (k := S - i + j) h61 (by omega) (by rw [List.length_map]; exact hlt) fun H7 c7 h7 => ?_
        refine ⟨Ch.cut (c5.trans c6) nD1 c7, r'.set (S - i + j) (coef r' (S - i + j) - many * y), some (.int (j : Nat)), some (.int y), rfl, ?_, c7.at1 ne12.symm h62, by rw [List.length_set]; exact lr', fun k => ?_⟩
        · rw [h7, ivs, ivs, List.map_set]
        · rw [coef_set hlt]
          by_cases ck : k = S - i + j
          · subst ck
            rw [if_pos rfl, hr', if_pos (by omega), if_pos (by omega), coef_take, coef_take, show S - i + j - (S - i) = j by omega, if_neg (by omega), if_pos (by omega), ey]
            omega
          · rw [if_neg ck, hr']
            congr 1
            by_cases c2' : S - i ≤ k
            · rw [if_pos c2', if_pos c2', coef_take, coef_take]
              by_cases c3' : k - (S - i) < j
              · rw [if_pos c3', if_pos (by omega)]
              · rw [if_neg c3', if_neg (by omega)]
            · rw [if_neg c2', if_neg c2']
      · rintro σ H5 ⟨c5, r', z11, z12, rfl, h51, h52, lr', hr'⟩
        rw [List.take_length] at hr'
        obtain ⟨f1, f2⟩ := fin r' lr' hr'
        exact ⟨c5, F.set (S - i) many, r', _, _, z11, z12, rfl, h51, h52, f1, f2, fF'⟩
    · walk_at "go"
      subst hm0
      obtain ⟨f1, f2⟩ := fin r dv.rlen fun k => by
        split <;> omega
      exact ⟨c34, F.set (S - i) 0, r, _, _, z9, z10, rfl, h41, h4', f1, f2, fF'⟩
  · rintro σ H3 ⟨c3, F, r, z7, z8, z9, z10, rfl, h1', h2', dv, fr, fF⟩
    rw [Nat.sub_self] at dv
    walk_at "go"
    have lF : F.length = S + 1 := by
      rw [dv.flen, hSp]
    refine ⟨D2, F, rfl, h2', by omega, fun u H4 c4 hu => ?_⟩
    walk_at "go"
    refine ⟨D1, r, rfl, c4.at0 h1', by rw [dv.rlen]; omega, fun v H5 c5 hv => ?_⟩
    walk_at "go"
    refine w_newT (show 3 ≤ sizeLine by decide) fun t H6 n6 c6 ht => ?_
    refine q m (trim F) (trim r) t u v _ ⟨?_, trim_row F, trim_row r, dv.rest ld, fun k => ?_⟩ ?_ ⟨Bd (S + 1), fF.trim, ?_⟩ (((c3.trans c4).trans c5).trans c6) (.of ht) ((c5.trans c6).sqT hu) (c6.sqT hv)
    · rw [hlast, ← hm, show p.length + 1 - d.length = S + 1 by omega]
    · rw [dv.eq k, coef_trim]
      congr 1
      exact coef_pmul_congr d F (trim F) (fun k => (coef_trim F k).symm) k
    · have := trim_len F
      omega
    · have := hBd (S + 1) (Nat.le_refl _)
      omega
end
end My

namespace My
open PySem PySem.Spec PyProof.Rows L2
section
variable {P : Program} {w : World} {K : PySem.W.Frag} {mg : Str → Option Value} {base : Heap}
/-! ### the box that the law draws from -/
def Box (H : Hp) (b c : Addr) : Prop := ∃ (cs : List Int) (k l t : Int), H b = some (.lst [.ref c, .int k, .int l, .int t]) ∧ H c = some (.lst (ivs cs)) ∧ b ≠ c ∧ cs.length ≤ 63 ∧ 0 ≤ l
theorem Box.mono {H H' : Hp} {b c : Addr} (B : Box H b c) (h : Ch [] H H') : Box H' b c := by
  obtain ⟨cs, k, l, t, h1, h2, r⟩ := B
  exact ⟨cs, k, l, t, h.at0 h1, h.at0 h2, r⟩
theorem Box.mono1 {H H' : Hp} {b c d : Addr} (B : Box H b c) (h : Ch [d] H H') (n1 : b ≠ d) (n2 : c ≠ d) : Box H' b c := by
  obtain ⟨cs, k, l, t, h1, h2, r⟩ := B
  exact ⟨cs, k, l, t, h.at1 n1 h1, h.at1 n2 h2, r⟩
/-- a new address is neither -/
theorem Box.ne {H : Hp} {b c d : Addr} (B : Box H b c) (hd : H d = none) : b ≠ d ∧ c ≠ d := by
  obtain ⟨cs, k, l, t, h1, h2, r⟩ := B
  exact ⟨ne_of_none h1 hd, ne_of_none h2 hd⟩
abbrev s__law_box : Stmt := topS 21
theorem sc__law_box : FnScope ["script", "cell"] ["script"] (defScope s__law_box) := ⟨rfl, rfl, rfl, by decide +kernel, rfl, by decide +kernel, by decide +kernel⟩
def sp__law_box (K : PySem.W.Frag) : Sp := fun vs H Q _ => ∃ (a : Addr) (ns : List Int), vs = [.ref a] ∧ SqL K H a (ivs ns) ∧ ns.length ≤ 63 ∧ ∀ b c H', Ch [] H H' → Box H' b c → Q (.ref b) H'
theorem c__law_box (T : Txt mg) {f : Addr} {fd : FuncData} (F : DefF K mg "_law_box" s__law_box ["script"] f fd) : Cal P w K mg base 1 "_law_box" (sp__law_box K) := by
  refine cal_of F sc__law_box (fun vs H Q E h => by obtain ⟨_, _, rfl, _⟩ := h; rfl) (fun cdv A outer s H vs Q E hr h => ?_)
  obtain ⟨a, ns, rfl, hs, hl, q⟩ := h
  refine ⟨_, (pss_one (ps_ret (pe_lst (pa_cons (pe_lc (own := [("cell", 1)]) (g := gName 1) rfl sc__law_box.nd (k_piL (K := K) rfl (pe_slice (k_slL (K := K) rfl) (pv 0) po_none (po_some pe_int))) (blkOk_by (own := [("cell", 1)]) (N := ["script", "cell"]) (sc := defScope s__law_box) (by decide +kernel)) (fun _ _ _ _ _ => pg_name (i := 1) sc__law_box.nd rfl (Or.inl rfl)) (fun _ _ _ _ _ => pts_nil) (fun _ _ _ _ _ => (pe_callTy cb_int (by rfl) T.z_int (by decide +kernel) (pa_cons (pv 1) pa_nil)))) (pa_cons pe_int (pa_cons pe_int (pa_cons pe_int pa_nil))))))), ?_⟩
  refine w_start (σ := [some _, none]) rfl ?_
  walk_at "go"
  refine w_slL hs fun s1 H1 n1 c1 h1 => ?_
  have e63 : cutV (ivs ns) none (some 63) = ivs ns := by
    have := cutV_whole (xs := ivs ns) (lo := none) (hi := some 63) ⟨HT.sIx_none _ _, by
      have := sIx_nat' (ivs ns).length (ivs ns).length 63
      rw [List.length_map] at this ⊢
      show HT.sIx ns.length ns.length (some ((63 : Nat) : Int)) = _
      rw [this]
      omega⟩
    exact this
  rw [e63] at h1
  walk_at "go"
  refine w_iLr (.of h1) ?_
  have w : Walk (Itl K s1) ns.length (fun H => SqL K H s1 (ivs ns)) (YAt (ivs ns)) := by
    have q := walk_list (K := K) (a := s1) (xs := ivs ns)
    rw [List.length_map] at q
    exact q
  refine lc_w (i := 1) w (fun k => .int (ns.getD k 0)) rfl (fun _ c => c.sq0 (.of h1)) (by omega) (fun k x H2 H3 hk c y S kk => ?_) (fun D H2 nD c2 hD => ?_)
  · obtain ⟨e, hx⟩ := y
    subst e
    obtain ⟨z, hz, rfl⟩ := ivs_get_inv hx
    walk_at "go"
    have e : ns.getD k 0 = z := coef_get hz
    have kk := kk _ .refl
    rw [e] at kk
    exact kk
  · rw [range_map] at hD
    walk_at "go"
    refine w_newL (show 4 ≤ sizeLine by decide) fun b H3 nb c3 hb => ?_
    exact q b D _ ((c1.trans c2).trans c3) ⟨ns, 0, 0, 0, hb, c3.at0 hD, (ne_of_none hD nb).symm, hl, Int.le_refl _⟩
abbrev s__law_mix : Stmt := topS 22
theorem sc__law_mix : FnScope ["cell", "turn", "first", "second"] ["cell", "turn"] (defScope s__law_mix) := ⟨rfl, rfl, rfl, by decide +kernel, rfl, by decide +kernel, by decide +kernel⟩
def sp__law_mix : Sp := fun vs H Q _ => ∃ (a t : Int), vs = [.int a, .int t] ∧ ∀ r : Int, Q (.int r) H
theorem c__law_mix (T : Txt mg) {f : Addr} {fd : FuncData} (F : DefF K mg "_law_mix" s__law_mix ["cell", "turn"] f fd) : Cal P w K mg base 1 "_law_mix" sp__law_mix := by
  refine cal_of F sc__law_mix (fun vs H Q E h => by obtain ⟨_, _, rfl, _⟩ := h; rfl) (fun cdv A outer s H vs Q E hr h => ?_)
  obtain ⟨a, t, rfl, q⟩ := h
  refine ⟨_, (pss_cons (ps_set (i := 2) sc__law_mix.nd rfl (Or.inl rfl) (pe_op op_mod (pe_op op_add (pe_op op_add (pe_op op_mulG (pe_callTy cb_int (by rfl) T.z_int (by decide +kernel) (pa_cons (pv 0) pa_nil)) pe_int) (pe_op op_mulG (pv 1) pe_int)) pe_int) pe_int))
 (pss_cons (ps_set (i := 3) sc__law_mix.nd rfl (Or.inl rfl) (pe_op op_mod (pe_op op_add (pe_op op_add (pe_op op_mulG (pv 2) (pv 2)) (pe_op op_mulG (pv 1) pe_int)) pe_int) pe_int))
 (pss_one (ps_ret (pe_op op_fdiv (pe_op op_mod (pe_op op_add (pe_op op_mulG (pv 3) pe_int) (pv 2)) pe_int) pe_int))))), ?_⟩
  refine w_start (σ := [some _, some _, none, none]) rfl ?_
  walk_at "go"
  generalize hf : (a * 48271 + t * 69621 + 11) % 2147483647 = first
  have hfb : first.natAbs < 2 ^ 63 := by omega
  refine w_mulr hfb ?_
  walk_at "go"
  exact q _
abbrev s__law_draw : Stmt := topS 23
theorem sc__law_draw : FnScope ["box", "size", "digit", "cell"] ["box", "size"] (defScope s__law_draw) := ⟨rfl, rfl, rfl, by decide +kernel, rfl, by decide +kernel, by decide +kernel⟩
def sp__law_draw : Sp := fun vs H Q _ => ∃ (b c : Addr) (size : Int), vs = [.ref b, .int size] ∧ Box H b c ∧ 0 < size ∧ size < 1073741824 ∧ ∀ (r : Int) H', 0 ≤ r → r < size → Ch [b] H H' → Box H' b c → Q (.int r) H'
theorem c__law_draw (T : Txt mg) (C__law_mix : Cal P w K mg base 1 "_law_mix" sp__law_mix) {f : Addr} {fd : FuncData} (F : DefF K mg "_law_draw" s__law_draw ["box", "size"] f fd) : Cal P w K mg base 2 "_law_draw" sp__law_draw := by
  refine cal_of F sc__law_draw (fun vs H Q E h => by obtain ⟨_, _, _, rfl, _⟩ := h; rfl) (fun cdv A outer s H vs Q E hr h => ?_)
  obtain ⟨b, c, size, rfl, ⟨cs, k, l, t, hb, hc, ne, hlen, hl⟩, hs0, hs1, q⟩ := h
  refine ⟨_, (pss_cons (ps_asg (pe_op op_add (pe_ix (k_ixL (K := K) rfl) (pv 0) pe_int (fun _ _ => rfl)) pe_int) (pg_sub (pv 0) pe_int set_list))
 (pss_cons (ps_if (pt_cmpR op_gt (pe_ix (k_ixL (K := K) rfl) (pv 0) pe_int (fun _ _ => rfl)) pe_int (nomark _)) (pss_cons (ps_set (i := 2) sc__law_draw.nd rfl (Or.inl rfl) (pe_op op_mod (pe_callTy cb_int (by rfl) T.z_int (by decide +kernel) (pa_cons (pe_ix (k_ixL (K := K) rfl) (pv 0) pe_int (fun _ _ => rfl)) pa_nil)) (pv 1)))
 (pss_cons (ps_asg (pe_op op_fdivG (pe_ix (k_ixL (K := K) rfl) (pv 0) pe_int (fun _ _ => rfl)) (pv 1)) (pg_sub (pv 0) pe_int set_list))
 (pss_one (ps_ret (pv 2))))) pss_nil)
 (pss_cons (ps_set (i := 3) sc__law_draw.nd rfl (Or.inl rfl) pe_int)
 (Evl.pss_cut (ps_if (k_tru (K := K) rfl (pe_ix (k_ixL (K := K) rfl) (pv 0) pe_int (fun _ _ => rfl))) (pss_one (ps_set (i := 3) sc__law_draw.nd rfl (Or.inl rfl) (pe_ix (k_ixL (K := K) rfl) (pe_ix (k_ixL (K := K) rfl) (pv 0) pe_int (fun _ _ => rfl)) (pe_op op_mod (pe_callTy cb_int (by rfl) T.z_int (by decide +kernel) (pa_cons (pe_ix (k_ixL (K := K) rfl) (pv 0) pe_int (fun _ _ => rfl)) pa_nil)) (pe_callB (k_len (K := K) rfl) (by rfl) T.z_len PySem.boot_len (pa_cons (pe_ix (k_ixL (K := K) rfl) (pv 0) pe_int (fun _ _ => rfl)) pa_nil))) (fun _ _ => rfl)))) pss_nil)
 (pss_cons (ps_asg (pe_op op_add (pe_ix (k_ixL (K := K) rfl) (pv 0) pe_int (fun _ _ => rfl)) pe_int) (pg_sub (pv 0) pe_int set_list))
 (pss_cons (ps_if (PW.pt (pw_and (pt_cmpR op_ge (pe_callB cb_abs (by rfl) T.z_abs (by decide +kernel) (pa_cons (pv 3) pa_nil)) (pe_op op_pow pe_int pe_int) (nomark _)) (pw_and1 (pt_cmpR op_le (pe_ix (k_ixL (K := K) rfl) (pv 0) pe_int (fun _ _ => rfl)) (pe_callB (k_len (K := K) rfl) (by rfl) T.z_len PySem.boot_len (pa_cons (pe_ix (k_ixL (K := K) rfl) (pv 0) pe_int (fun _ _ => rfl)) pa_nil)) (nomark _))))) (pss_cons (ps_asg (pe_op op_fdivG (pe_callB cb_abs (by rfl) T.z_abs (by decide +kernel) (pa_cons (pv 3) pa_nil)) (pv 1)) (pg_sub (pv 0) pe_int set_list))
 (pss_one (ps_ret (pe_op op_mod (pe_callTy cb_int (by rfl) T.z_int (by decide +kernel) (pa_cons (pe_callB cb_abs (by rfl) T.z_abs (by decide +kernel) (pa_cons (pv 3) pa_nil)) pa_nil)) (pv 1))))) pss_nil)
 (pss_one (ps_ret (pe_op op_mod (pe_callTy cb_int (by rfl) T.z_int (by decide +kernel) (pa_cons (pe_cc C__law_mix hr (by decide) (by rfl) (pa_cons (pv 3) (pa_cons (pe_ix (k_ixL (K := K) rfl) (pv 0) pe_int (fun _ _ => rfl)) pa_nil))) pa_nil)) (pv 1)))))))))), ?_⟩
  refine w_start (σ := [some _, some _, none, none]) rfl ?_
  walk_at "go"
  refine w_setL (k := 3) hb rfl (show 3 < 4 by decide) fun H1 c1 h1 => ?_
  have h1 : H1 b = some (.lst [.ref c, .int k, .int l, .int (t + 1)]) := h1
  have hc1 := c1.at1 ne.symm hc
  walk_at "go"
  have szb : size.natAbs < 2 ^ 31 := by omega
  refine ite_d (fun h0 => ?_) (fun h0 => ?_)
  · walk_at "go"
    refine w_mod hs0 ?_
    walk_at "go"
    refine w_I (div_ok (by omega) szb (by decide)) ?_
    walk_at "go"
    refine w_setL (k := 2) h1 rfl (show 2 < 4 by decide) fun H2 c2 h2 => ?_
    have h2 : H2 b = some (.lst [.ref c, .int k, .int (l.fdiv size), .int (t + 1)]) := h2
    walk_at "go"
    exact q _ _ (Int.emod_nonneg _ (by omega)) (Int.emod_lt_of_pos _ hs0) (c1.trans c2) ⟨cs, k, _, _, h2, c2.at1 ne.symm hc1, ne, hlen, Int.fdiv_nonneg hl (by omega)⟩
  walk_at "go"
  refine w_cut (M := fun σ' H' => H' = H1 ∧ ∃ cell : Int, σ' = [some (.ref b), some (.int size), none, some (.int cell)]) ?_ ?_
  · walk_at "go"
    refine w_truL (.of hc1) ?_
    refine ite_b (fun he => ?_) (fun he => ?_)
    · have hpos : 0 < cs.length := by
        cases cs with
        | nil => simp at he
        | cons x r => simp
      walk_at "go"
      refine w_lenLi hc1 ?_
      refine w_mod (by omega) ?_
      have m0 := Int.emod_nonneg k (show (cs.length : Int) ≠ 0 by omega)
      have m1 := Int.emod_lt_of_pos k (show (0 : Int) < cs.length by omega)
      refine w_ixLi (k := (k % cs.length).toNat) hc1 (by omega) (get_coef (by omega)) ?_
      walk_at "go"
      exact ⟨rfl, _, rfl⟩
    · walk_at "go"
      exact ⟨rfl, _, rfl⟩
  · rintro σ' H' ⟨rfl, cell, rfl⟩
    walk_at "go"
    refine w_setL (k := 1) h1 rfl (show 1 < 4 by decide) fun H2 c2 h2 => ?_
    have h2 : H2 b = some (.lst [.ref c, .int (k + 1), .int l, .int (t + 1)]) := h2
    have hc2 := c2.at1 ne.symm hc1
    have c12 := c1.trans c2
    have tl : (∀ r : Int, ∀ H3, 0 ≤ r → r < size → Ch [b] H2 H3 → Box H3 b c → Q (.int r) H3) := fun r H3 a1 a2 a3 a4 => q r H3 a1 a2 (c12.trans a3) a4
    have B2 : Box H2 b c := ⟨cs, _, _, _, h2, hc2, ne, hlen, hl⟩
    walk_at "go"
    refine ite_d (fun h3 => ?_) (fun h3 => ?_)
    · walk_at "go"
      refine w_lenLi hc2 ?_
      walk_at "go"
      refine ite_d (fun h4 => ?_) (fun h4 => ?_)
      · walk_at "go"
        refine w_I (div_ok (by omega) szb (by decide)) ?_
        walk_at "go"
        refine w_setL (k := 2) h2 rfl (show 2 < 4 by decide) fun H3 c3 h3 => ?_
        have h3 : H3 b = some (.lst [.ref c, .int (k + 1), .int ((cell.natAbs : Int).fdiv size), .int (t + 1)]) := h3
        walk_at "go"
        refine w_mod hs0 ?_
        exact tl _ _ (Int.emod_nonneg _ (by omega)) (Int.emod_lt_of_pos _ hs0) c3 ⟨cs, _, _, _, h3, c3.at1 ne.symm hc2, ne, hlen, Int.fdiv_nonneg (by omega) (by omega)⟩
      · walk_at "go"
        refine ⟨cell, t + 1, rfl, fun r => ?_⟩
        walk_at "go"
        refine w_mod hs0 ?_
        exact tl _ _ (Int.emod_nonneg _ (by omega)) (Int.emod_lt_of_pos _ hs0) .refl B2
    · rw [if_neg (by decide)]
      walk_at "go"
      refine ⟨cell, t + 1, rfl, fun r => ?_⟩
      walk_at "go"
      refine w_mod hs0 ?_
      exact tl _ _ (Int.emod_nonneg _ (by omega)) (Int.emod_lt_of_pos _ hs0) .refl B2
/-! ### _law_gcd -/
abbrev s__law_gcd : Stmt := topS 25
theorem sc__law_gcd : FnScope ["a", "b", "turn"] ["a", "b"] (defScope s__law_gcd) := ⟨rfl, rfl, rfl, by decide +kernel, rfl, by decide +kernel, by decide +kernel⟩
def sp__law_gcd : Sp := fun vs H Q _ => ∃ (a b : Int) (n : Nat), vs = [.int a, .int b] ∧ b.natAbs < 2 ^ n ∧ n ≤ 1000000 ∧ Q (.int (Nat.gcd a.natAbs b.natAbs : Nat)) H
theorem bits_of (y : Nat) : ∃ L : Nat, Builtin.Int.intBits (y : Int) = L ∧ y < 2 ^ L ∧ ∀ n, y < 2 ^ n → L ≤ n := by
  unfold Builtin.Int.intBits
  by_cases h : y = 0
  · subst h
    exact ⟨0, rfl, by decide, fun n _ => Nat.zero_le n⟩
  · have e : ((y : Int) == 0) = false := by
      rw [beq_eq_false_iff_ne]
      omega
    refine ⟨y.log2 + 1, ?_, Nat.lt_log2_self, fun n hn => ?_⟩
    · rw [e]
      rfl
    · exact (Nat.log2_lt h).mpr hn
theorem c__law_gcd (T : Txt mg) {f : Addr} {fd : FuncData} (F : DefF K mg "_law_gcd" s__law_gcd ["a", "b"] f fd) : Cal P w K mg base 1 "_law_gcd" sp__law_gcd := by
  refine cal_of F sc__law_gcd (fun vs H Q E h => by obtain ⟨_, _, _, rfl, _⟩ := h; rfl) (fun cdv A outer s H vs Q E hr h => ?_)
  obtain ⟨a, b, n, rfl, hb, hn, q⟩ := h
  refine ⟨_, (pss_cons (ps_par (i := 0) (j := 1) (by rfl) sc__law_gcd.nd rfl rfl (by decide) rfl rfl (pa_cons (pe_callB cb_abs (by rfl) T.z_abs (by decide +kernel) (pa_cons (pv 0) pa_nil)) (pa_cons (pe_callB cb_abs (by rfl) T.z_abs (by decide +kernel) (pa_cons (pv 1) pa_nil)) pa_nil)) (by rfl))
 (pss_cons (ps_for PassesOwn.never rfl (pi_range1 (by rfl) T.z_range (pa_cons (pe_op op_add (pe_op op_mulG pe_int (pe_bits (pv 1))) pe_int) pa_nil)) (pg_name (i := 2) sc__law_gcd.nd rfl (Or.inl rfl)) (pss_cons (ps_if (pt_cmpR op_eq (pv 1) pe_int (nomark _)) (pss_one (ps_ret (pv 0))) pss_nil)
 (pss_one (ps_par (i := 0) (j := 1) (by rfl) sc__law_gcd.nd rfl rfl (by decide) rfl rfl (pa_cons (pv 1) (pa_cons (pe_op op_mod (pe_callTy cb_int (by rfl) T.z_int (by decide +kernel) (pa_cons (pv 0) pa_nil)) (pv 1)) pa_nil)) (by rfl)))))
 (pss_one (ps_ret (pv 0))))), ?_⟩
  refine w_start (σ := [some _, some _, none]) rfl ?_
  walk_at "go"
  obtain ⟨L, eL, hL, hLn⟩ := bits_of b.natAbs
  have hLn := hLn n hb
  rw [eL]
  walk_at "go"
  refine w_iR1r (by omega) (by omega) ?_
  have en : (2 * (L : Int) + 4).toNat = 2 * L + 4 := by omega
  rw [en]
  refine for_R (n := 2 * L + 4) (fun i σ H' => H' = H ∧ ∃ (x y : Nat) (z : Option V), σ = [some (.int x), some (.int y), z] ∧ Nat.gcd x y = Nat.gcd a.natAbs b.natAbs ∧ Euc L i x y) ⟨rfl, _, _, none, rfl, rfl, fun _ => by simpa using hL, fun h => by omega⟩ ?_ ?_
  · rintro i σ H' hi ⟨rfl, x, y, z, rfl, hg, eu⟩
    walk_at "go"
    refine ite_d (fun h0 => ?_) (fun h0 => ?_)
    · walk_at "go"
      have hy : y = 0 := by omega
      subst hy
      rw [Nat.gcd_zero_right] at hg
      rw [hg]
      exact q
    · walk_at "go"
      refine w_mod (by omega) ?_
      walk_at "go"
      refine ⟨rfl, y, x % y, _, rfl, ?_, eu.step (by omega)⟩
      rw [← hg, Nat.gcd_comm x y, Nat.gcd_rec y x, Nat.gcd_comm]
  · rintro σ H' ⟨rfl, x, y, z, rfl, hg, eu⟩
    have hy := eu.zero
    subst hy
    rw [Nat.gcd_zero_right] at hg
    walk_at "go"
    rw [hg]
    exact q
/-! ### _law_number -/
abbrev s__law_number : Stmt := topS 26
theorem sc__law_number : FnScope ["box", "groups", "number", "k"] ["box", "groups"] (defScope s__law_number) := ⟨rfl, rfl, rfl, by decide +kernel, rfl, by decide +kernel, by decide +kernel⟩
def sp__law_number : Sp := fun vs H Q _ => ∃ (b c : Addr) (g : Nat), vs = [.ref b, .int g] ∧ Box H b c ∧ g ≤ 1000 ∧ ∀ (z : Int) H', z.natAbs < 2 ^ (27 * g + 4) → Ch [b] H H' → Box H' b c → Q (.int z) H'
theorem c__law_number (T : Txt mg) (C__law_draw : Cal P w K mg base 2 "_law_draw" sp__law_draw) {f : Addr} {fd : FuncData} (F : DefF K mg "_law_number" s__law_number ["box", "groups"] f fd) : Cal P w K mg base 3 "_law_number" sp__law_number := by
  refine cal_of F sc__law_number (fun vs H Q E h => by obtain ⟨_, _, _, rfl, _⟩ := h; rfl) (fun cdv A outer s H vs Q E hr h => ?_)
  obtain ⟨b, c, g, rfl, B, hg, q⟩ := h
  refine ⟨_, (pss_cons (ps_if (pt_cmpR op_eq (pv 1) pe_int (nomark _)) (pss_one (ps_ret (pe_op op_sub (pe_cc C__law_draw hr (by decide) (by rfl) (pa_cons (pv 0) (pa_cons pe_int pa_nil))) pe_int))) pss_nil)
 (pss_cons (ps_set (i := 2) sc__law_number.nd rfl (Or.inl rfl) pe_int)
 (pss_cons (ps_for PassesOwn.never rfl (pi_range1 (by rfl) T.z_range (pa_cons (pv 1) pa_nil)) (pg_name (i := 3) sc__law_number.nd rfl (Or.inl rfl)) (pss_one (ps_set (i := 2) sc__law_number.nd rfl (Or.inl rfl) (pe_op op_add (pe_op op_mulG (pv 2) (pe_op op_pow pe_int pe_int)) (pe_cc C__law_draw hr (by decide) (by rfl) (pa_cons (pv 0) (pa_cons (pe_op op_pow pe_int pe_int) pa_nil)))))))
 (pss_cons (ps_if (pt_cmpR op_eq (pe_cc C__law_draw hr (by decide) (by rfl) (pa_cons (pv 0) (pa_cons pe_int pa_nil))) pe_int (nomark _)) (pss_one (ps_ret (pe_un un_neg (pv 2)))) pss_nil)
 (pss_one (ps_ret (pv 2))))))), ?_⟩
  refine w_start (σ := [some _, some _, none, none]) rfl ?_
  walk_at "go"
  refine ite_d (fun h0 => ?_) (fun h0 => ?_)
  · walk_at "go"
    refine ⟨b, c, 19, rfl, B, by decide, by decide, fun r H1 r0 r1 c1 B1 => ?_⟩
    walk_at "go"
    refine q _ _ (Nat.lt_of_lt_of_le (show (r - 9).natAbs < 2 ^ 4 by omega) (Nat.pow_le_pow_right (by decide) (by omega))) c1 B1
  walk_at "go"
  refine w_iR1r (by omega) (by omega) ?_
  refine for_R (n := g) (fun i σ H' => Ch [b] H H' ∧ Box H' b c ∧ ∃ (x : Nat) (z : Option V), σ = [some (.ref b), some (.int (g : Int)), some (.int (x : Int)), z] ∧ x < 2 ^ (27 * i)) ⟨.refl, B, 0, none, rfl, Nat.two_pow_pos _⟩ ?_ ?_
  · rintro i σ H' hi ⟨c1, B1, x, z, rfl, hx⟩
    walk_at "go"
    have e8 : (10 : Int) ^ (8 : Int).toNat = 100000000 := by decide
    refine ⟨b, c, 10 ^ (8 : Int).toNat, rfl, B1, by decide, by decide, fun r H2 r0 r1 c2 B2 => ?_⟩
    rw [e8] at r1
    walk_at "go"
    rw [e8]
    refine ⟨c1.trans c2, B2, x * 100000000 + r.toNat, some (.int (0 + (i : Int))), ?_, ?_⟩
    · have e : (x : Int) * 100000000 + r = ((x * 100000000 + r.toNat : Nat) : Int) := by omega
      rw [e]
      rfl
    · rw [Nat.mul_add, Nat.mul_one, Nat.pow_add]
      have p : (2 : Nat) ^ 27 = 134217728 := by decide
      rw [p]
      omega
  · rintro σ H' ⟨c1, B1, x, z, rfl, hx⟩
    have hb : ∀ y : Int, y.natAbs = x → y.natAbs < 2 ^ (27 * g + 4) := fun y hy => by
      rw [hy]
      exact Nat.lt_of_lt_of_le hx (Nat.pow_le_pow_right (by decide) (by omega))
    walk_at "go"
    refine ⟨b, c, 2, rfl, B1, by decide, by decide, fun r H2 r0 r1 c2 B2 => ?_⟩
    walk_at "go"
    refine ite_d (fun h1 => ?_) (fun h1 => ?_)
    · walk_at "go"
      exact q _ _ (hb _ (by omega)) (c1.trans c2) B2
    · walk_at "go"
      exact q _ _ (hb _ (by omega)) (c1.trans c2) B2
end
end My

namespace My
open PySem PySem.Spec PyProof.Rows L2
/-! ### isinstance -/
section
variable {K : PySem.W.Frag} {H : Hp} {Q : VK} {a : Addr} {xs : List V} {i : Int}
theorem w_isiII (q : Q (.bl true) H) : rIsi K [.int i, .ty "int"] H Q := ⟨_, _, _, _, _, rfl, .ty _, .base (.int i), kit_ty (by decide +kernel), q⟩
theorem w_isiIB (q : Q (.bl false) H) : rIsi K [.int i, .ty "bool"] H Q := ⟨_, _, _, _, _, rfl, .ty _, .base (.int i), kit_ty (by decide +kernel), q⟩
theorem tyT (h : SqT K H a xs) : TyX K H (.ref a) (.type "tuple") := by
  rcases h with (h | ⟨o, h⟩) | ⟨o, its, n, hk, hc, _⟩
  · exact .base (.tup h)
  · exact .fTuple h
  · exact .kTuple hk hc
theorem w_isiTT (h : SqT K H a xs) (q : Q (.bl true) H) : rIsi K [.ref a, .ty "tuple"] H Q := ⟨_, _, _, _, _, rfl, .ty _, tyT h, kit_ty (by decide +kernel), q⟩
theorem w_all {bs : List Bool} (h : SqL K H a (bs.map V.bl)) (q : Q (.bl (bs.all id)) H) : rAll K [.ref a] H Q := ⟨a, bs, rfl, h, q⟩
end
section
variable {P : Program} {w : World} {K : PySem.W.Frag} {mg : Str → Option Value} {base : Heap}
abbrev s__law_is_int : Stmt := topS 24
theorem sc__law_is_int : FnScope ["thing"] ["thing"] (defScope s__law_is_int) := ⟨rfl, rfl, rfl, by decide +kernel, rfl, by decide +kernel, by decide +kernel⟩
def sp__law_is_int : Sp := fun vs H Q _ => ∃ i : Int, vs = [.int i] ∧ Q (.bl true) H
theorem c__law_is_int (T : Txt mg) {f : Addr} {fd : FuncData} (F : DefF K mg "_law_is_int" s__law_is_int ["thing"] f fd) : Cal P w K mg base 1 "_law_is_int" sp__law_is_int := by
  refine cal_of F sc__law_is_int (fun vs H Q E h => by obtain ⟨_, rfl, _⟩ := h; rfl) (fun cdv A outer s H vs Q E hr h => ?_)
  obtain ⟨i, rfl, q⟩ := h
  refine ⟨_, (pss_one (ps_ret (pe_and (pe_callB (k_isi (K := K) rfl) (by rfl) T.z_isinstance (by decide +kernel) (pa_cons (pv 0) (pa_cons (pe_bltn (by rfl) T.z_int (by decide +kernel) (v := .ty "int") rfl) pa_nil))) (pe_one (pe_not (pe_callB (k_isi (K := K) rfl) (by rfl) T.z_isinstance (by decide +kernel) (pa_cons (pv 0) (pa_cons (pe_bltn (by rfl) T.z_bool (by decide +kernel) (v := .ty "bool") rfl) pa_nil)))))))), ?_⟩
  refine w_start (σ := [some _]) rfl ?_
  walk_at "go"
  refine w_isiII ?_
  walk_at "go"
  rw [if_pos rfl]
  walk_at "go"
  refine w_isiIB ?_
  walk_at "go"
  exact q
/-! ### _law_same -/
abbrev s__law_same : Stmt := topS 34
theorem sc__law_same : FnScope ["told", "due", "k"] ["told", "due"] (defScope s__law_same) := ⟨rfl, rfl, rfl, by decide +kernel, rfl, by decide +kernel, by decide +kernel⟩
def sp__law_same (K : PySem.W.Frag) : Sp := fun vs H Q _ => ∃ (a b : Addr) (p r : List Int), vs = [.ref a, .ref b] ∧ SqT K H a (ivs p) ∧ SqT K H b (ivs r) ∧ p.length ≤ 1000 ∧ r.length ≤ 1000 ∧ ∀ H', Ch [] H H' → Q (.bl (decide (p = r))) H'
theorem all_same {p r : List Int} (h : p.length = r.length) : ((List.range r.length).map fun k => decide (coef p k = coef r k)).all id = decide (p = r) := by
  by_cases e : p = r
  · subst e
    rw [decide_eq_true rfl, List.all_eq_true]
    intro x hx
    obtain ⟨k, _, rfl⟩ := List.mem_map.mp hx
    simp
  · rw [decide_eq_false e, Bool.eq_false_iff]
    intro ha
    apply e
    rw [List.all_eq_true] at ha
    apply List.ext_getElem h
    intro k h1 h2
    have := ha _ (List.mem_map.mpr ⟨k, List.mem_range.mpr h2, rfl⟩)
    rw [← coef_lt h1, ← coef_lt h2]
    simpa using this
theorem c__law_same (T : Txt mg) (C__law_is_int : Cal P w K mg base 1 "_law_is_int" sp__law_is_int) {f : Addr} {fd : FuncData} (F : DefF K mg "_law_same" s__law_same ["told", "due"] f fd) : Cal P w K mg base 2 "_law_same" (sp__law_same K) := by
  refine cal_of F sc__law_same (fun vs H Q E h => by obtain ⟨_, _, _, _, rfl, _⟩ := h; rfl) (fun cdv A outer s H vs Q E hr h => ?_)
  obtain ⟨a, b, p, r, rfl, hp, hq, lp, lr, q⟩ := h
  refine ⟨_, (pss_cons (ps_if (PW.pt (pw_or (pt_not (pt_val (pe_callB (k_isi (K := K) rfl) (by rfl) T.z_isinstance (by decide +kernel) (pa_cons (pv 0) (pa_cons (pe_bltn (by rfl) T.z_tuple (by decide +kernel) (v := .ty "tuple") rfl) pa_nil))))) (pw_or1 (pt_cmpR op_ne (pe_callB (k_len (K := K) rfl) (by rfl) T.z_len PySem.boot_len (pa_cons (pv 0) pa_nil)) (pe_callB (k_len (K := K) rfl) (by rfl) T.z_len PySem.boot_len (pa_cons (pv 1) pa_nil)) (nomark _))))) (pss_one (ps_ret pe_bl)) pss_nil)
 (pss_one (ps_ret (pe_callB (k_all (K := K) rfl rfl) (by rfl) T.z_all (by decide +kernel) (pa_cons (pe_lc (own := [("k", 2)]) (g := gName 2) rfl sc__law_same.nd (pi_range1 (by rfl) T.z_range (pa_cons (pe_callB (k_len (K := K) rfl) (by rfl) T.z_len PySem.boot_len (pa_cons (pv 1) pa_nil)) pa_nil)) (blkOk_by (own := [("k", 2)]) (N := ["told", "due", "k"]) (sc := defScope s__law_same) (by decide +kernel)) (fun _ _ _ _ _ => pg_name (i := 2) sc__law_same.nd rfl (Or.inl rfl)) (fun _ _ _ _ _ => pts_nil) (fun _ _ _ _ _ => (pe_and (pe_cc C__law_is_int hr (by decide) (by rfl) (pa_cons (pe_ix (k_ixT (K := K) rfl) (pv 0) (pv 2) (fun _ _ => rfl)) pa_nil)) (pe_one (pe_cmpR op_eq (pe_ix (k_ixT (K := K) rfl) (pv 0) (pv 2) (fun _ _ => rfl)) (pe_ix (k_ixT (K := K) rfl) (pv 1) (pv 2) (fun _ _ => rfl)) (nomark _)))))) pa_nil))))), ?_⟩
  refine w_start (σ := [some _, some _, none]) rfl ?_
  walk_at "go"
  refine w_isiTT hp ?_
  walk_at "go"
  rw [if_neg (by decide)]
  walk_at "go"
  refine w_lenTi hp ?_
  walk_at "go"
  refine w_lenTi hq ?_
  walk_at "go"
  refine ite_nd (fun h0 => ?_) (fun h0 => ?_)
  · walk_at "go"
    have e : p ≠ r := fun e => h0 (by rw [e])
    have q := q _ .refl
    rw [decide_eq_false e] at q
    exact q
  have h1 : p.length = r.length := by omega
  walk_at "go"
  refine w_lenTi hq ?_
  walk_at "go"
  refine w_iR1r (by omega) (by omega) ?_
  refine lc_R (n := r.length) (fun k => .bl (decide (coef p k = coef r k))) rfl (by omega) (fun k H1 hk c S kk => ?_) (fun D H1 nD c hD => ?_)
  · walk_at "go"
    refine w_ixTi (k := k) (c.sqT hp) (by omega) (get_coef (by omega)) ?_
    walk_at "go"
    refine ⟨_, rfl, ?_⟩
    walk_at "go"
    rw [if_pos rfl]
    walk_at "go"
    refine w_ixTi (k := k) (c.sqT hp) (by omega) (get_coef (by omega)) ?_
    walk_at "go"
    refine w_ixTi (k := k) (c.sqT hq) (by omega) (get_coef (by omega)) ?_
    walk_at "go"
    exact kk _ .refl
  · walk_at "go"
    refine w_all (bs := (List.range r.length).map fun k => decide (coef p k = coef r k)) (.of (by rw [hD, List.map_map]; rfl)) ?_
    rw [all_same h1]
    exact q _ c
/-! ### _law_trim -/
abbrev s__law_trim : Stmt := topS 27
theorem sc__law_trim : FnScope ["numbers", "size", "k"] ["numbers"] (defScope s__law_trim) := ⟨rfl, rfl, rfl, by decide +kernel, rfl, by decide +kernel, by decide +kernel⟩
def sp__law_trim (K : PySem.W.Frag) : Sp := fun vs H Q _ => ∃ (a : Addr) (p : List Int), vs = [.ref a] ∧ H a = some (.lst (ivs p)) ∧ p.length < 100000 ∧ RetT K H Q (trim p)
theorem c__law_trim (T : Txt mg) {f : Addr} {fd : FuncData} (F : DefF K mg "_law_trim" s__law_trim ["numbers"] f fd) : Cal P w K mg base 1 "_law_trim" (sp__law_trim K) := by
  refine cal_of F sc__law_trim (fun vs H Q E h => by obtain ⟨_, _, rfl, _⟩ := h; rfl) (fun cdv A outer s H vs Q E hr h => ?_)
  obtain ⟨a, p, rfl, hp, hl, q⟩ := h
  refine ⟨_, (pss_cons (ps_set (i := 1) sc__law_trim.nd rfl (Or.inl rfl) pe_int)
 (pss_cons (ps_for PassesOwn.never rfl (pi_range1 (by rfl) T.z_range (pa_cons (pe_callB (k_len (K := K) rfl) (by rfl) T.z_len PySem.boot_len (pa_cons (pv 0) pa_nil)) pa_nil)) (pg_name (i := 2) sc__law_trim.nd rfl (Or.inl rfl)) (pss_one (ps_if (pt_cmpR op_ne (pe_ix (k_ixL (K := K) rfl) (pv 0) (pv 2) (fun _ _ => rfl)) pe_int (nomark _)) (pss_one (ps_set (i := 1) sc__law_trim.nd rfl (Or.inl rfl) (pe_op op_add (pv 2) pe_int))) pss_nil)))
 (pss_one (ps_ret (pe_callTy (k_tuple (K := K) rfl) (by rfl) T.z_tuple (by decide +kernel) (pa_cons (pe_slice (k_slL (K := K) rfl) (pv 0) po_none (po_some (pv 1))) pa_nil)))))), ?_⟩
  refine w_start (σ := [some _, none, none]) rfl ?_
  walk_at "go"
  refine w_lenLi hp ?_
  walk_at "go"
  refine w_iR1r (by omega) (by omega) ?_
  refine for_R (n := p.length) (fun i σ H' => H' = H ∧ ∃ (s : Nat) (z : Option V), σ = [some (.ref a), some (.int (s : Int)), z] ∧ s ≤ i ∧ (∀ k, s ≤ k → k < i → coef p k = 0) ∧ (s = 0 ∨ coef p (s - 1) ≠ 0)) ⟨rfl, 0, none, rfl, Nat.le_refl _, fun k _ h => absurd h (by omega), .inl rfl⟩ ?_ ?_
  · rintro i σ H' hi ⟨rfl, s', z, rfl, hs, h0, h1⟩
    walk_at "go"
    refine w_ixLi (k := i) hp (by omega) (get_coef hi) ?_
    walk_at "go"
    refine ite_nd (fun h2 => ?_) (fun h2 => ?_)
    · walk_at "go"
      have e : (0 : Int) + (i : Int) + 1 = ((i + 1 : Nat) : Int) := by omega
      rw [e]
      exact ⟨rfl, i + 1, _, rfl, Nat.le_refl _, fun k a b => absurd a (by omega), .inr h2⟩
    · walk_at "go"
      refine ⟨rfl, s', _, rfl, by omega, fun k a b => ?_, h1⟩
      by_cases c : k = i
      · rw [c]
        exact h2
      · exact h0 k a (by omega)
  · rintro σ H' ⟨rfl, s', z, rfl, hs, h0, h1⟩
    walk_at "go"
    refine w_slL (.of hp) fun b H1 nb c1 hb => ?_
    walk_at "go"
    refine w_tupleL (.of hb) fun c H2 nc c2 hc => ?_
    rw [cut_to (by rw [List.length_map]; exact hs), ← List.map_take, take_trim hs (fun k hk => by by_cases c : k < p.length; exact h0 k hk c; exact coef_ge (by omega)) h1] at hc
    exact q _ _ (c1.trans c2) (.of hc)
theorem w_rep0 {H : Hp} {Q : VK} {l : Addr} {i : Int} {n : Nat} (h : H l = some (.lst [.int 0])) (hk : i = (n : Int)) (hn : n ≤ 100000) (q : ∀ p H', H p = none → Ch [] H H' → H' p = some (.lst (ivs (List.replicate n 0))) → Q (.ref p) H') : rRep (.ref l) (.int i) H Q := by
  subst hk
  refine ⟨l, n, [.int 0], rfl, rfl, h, by omega, by omega, ?_, ?_⟩
  · rw [Int.toNat_natCast]
    exact sz_le (by simp only [List.length_cons, List.length_nil]; omega)
  · have e : (List.replicate ((n : Int).toNat) [V.int 0]).flatten = ivs (List.replicate n 0) := by
      rw [Int.toNat_natCast, ivs, List.map_replicate]
      clear hn q
      induction n with
      | zero => rfl
      | succ n ih => rw [List.replicate_succ, List.replicate_succ, List.flatten_cons, ih]; rfl
    rw [e]
    exact w_new q
/-! ### _law_plus -/
abbrev s__law_plus : Stmt := topS 28
theorem sc__law_plus : FnScope ["p", "q", "scale", "numbers", "k"] ["p", "q", "scale"] (defScope s__law_plus) := ⟨rfl, rfl, rfl, by decide +kernel, rfl, by decide +kernel, by decide +kernel⟩
def sp__law_plus (K : PySem.W.Frag) : Sp := fun vs H Q _ => ∃ (a b : Addr) (p r : List Int) (z : Int), vs = [.ref a, .ref b, .int z] ∧ SqT K H a (ivs p) ∧ SqT K H b (ivs r) ∧ p.length ≤ 1000 ∧ r.length ≤ 1000 ∧ z.natAbs < 2 ^ 63 ∧ RetT K H Q (trim (padd p (pscale z r)))
theorem rep_ivs (n : Nat) : List.replicate n (V.int 0) = ivs (List.replicate n 0) := by rw [ivs, List.map_replicate]
theorem c__law_plus (T : Txt mg) (C__law_trim : Cal P w K mg base 1 "_law_trim" (sp__law_trim K)) {f : Addr} {fd : FuncData} (F : DefF K mg "_law_plus" s__law_plus ["p", "q", "scale"] f fd) : Cal P w K mg base 2 "_law_plus" (sp__law_plus K) := by
  refine cal_of F sc__law_plus (fun vs H Q E h => by obtain ⟨_, _, _, _, _, rfl, _⟩ := h; rfl) (fun cdv A outer s H vs Q E hr h => ?_)
  obtain ⟨a, b, p, r, z, rfl, hp, hq, lp, lr, hz, q⟩ := h
  refine ⟨_, (pss_cons (ps_set (i := 3) sc__law_plus.nd rfl (Or.inl rfl) (pe_op op_cat (pe_callTy (k_list (K := K) rfl) (by rfl) T.z_list (by decide +kernel) (pa_cons (pv 0) pa_nil)) (pe_op op_rep (pe_lst (pa_cons pe_int pa_nil)) (pe_callB (cb_max2 rfl) (by rfl) T.z_max (by decide +kernel) (pa_cons pe_int (pa_cons (pe_op op_sub (pe_callB (k_len (K := K) rfl) (by rfl) T.z_len PySem.boot_len (pa_cons (pv 1) pa_nil)) (pe_callB (k_len (K := K) rfl) (by rfl) T.z_len PySem.boot_len (pa_cons (pv 0) pa_nil))) pa_nil))))))
 (pss_cons (ps_for PassesOwn.never rfl (pi_range1 (by rfl) T.z_range (pa_cons (pe_callB (k_len (K := K) rfl) (by rfl) T.z_len PySem.boot_len (pa_cons (pv 1) pa_nil)) pa_nil)) (pg_name (i := 4) sc__law_plus.nd rfl (Or.inl rfl)) (pss_one (ps_asg (pe_op op_add (pe_ix (k_ixL (K := K) rfl) (pv 3) (pv 4) (fun _ _ => rfl)) (pe_op op_mulG (pv 2) (pe_ix (k_ixT (K := K) rfl) (pv 1) (pv 4) (fun _ _ => rfl)))) (pg_sub (pv 3) (pv 4) set_list))))
 (pss_one (ps_ret (pe_cc C__law_trim hr (by decide) (by rfl) (pa_cons (pv 3) pa_nil)))))), ?_⟩
  refine w_start (σ := [some _, some _, some _, none, none]) rfl ?_
  walk_at "go"
  refine w_listT hp fun l1 H1 n1 c1 h1 => ?_
  walk_at "go"
  refine w_newL (show 1 ≤ sizeLine by decide) fun l2 H2 n2 c2 h2 => ?_
  walk_at "go"
  refine w_lenTi ((c1.trans c2).sqT hq) ?_
  walk_at "go"
  refine w_lenTi ((c1.trans c2).sqT hp) ?_
  walk_at "go"
  have ek : (if (r.length : Int) - p.length > 0 then (r.length : Int) - p.length else 0) = ((r.length - p.length : Nat) : Int) := by split <;> omega
  refine w_rep0 h2 ek (by omega) fun l3 H3 n3 c3 h3 => ?_
  walk_at "go"
  refine w_cat ((c2.trans c3).at0 h1) h3 (by walk_at "sz") fun D H4 nD c4 hD => ?_
  have c04 := ((c1.trans c2).trans c3).trans c4
  have nDH : H D = none := ((c1.trans c2).trans c3).free nD
  walk_at "go"
  refine w_lenTi (c04.sqT hq) ?_
  walk_at "go"
  refine w_iR1r (by omega) (by omega) ?_
  refine for_R (n := r.length) (fun i σ H' => Ch [] H H' ∧ ∃ (l : List Int) (y : Option V), σ = [some (.ref a), some (.ref b), some (.int z), some (.ref D), y] ∧ H' D = some (.lst (ivs l)) ∧ l.length = max p.length r.length ∧ ∀ k, coef l k = coef p k + z * coef (r.take i) k)
    ⟨c04, p ++ List.replicate (r.length - p.length) 0, none, rfl, by rw [hD, ivs, ivs, ivs, List.map_append], by rw [List.length_append, List.length_replicate]; omega, fun k => ?_⟩ ?_ ?_
  · rw [coef_append, coef_rep, List.take_zero, coef_nil]
    by_cases c : k < p.length
    · rw [if_pos c]
      omega
    · rw [if_neg c, coef_ge (p := p) (by omega)]
      omega
  · rintro i σ H5 hi ⟨c5, l, y, rfl, hl, ll, hc⟩
    have hlt : i < l.length := by omega
    walk_at "go"
    refine w_ixLi (k := i) hl (by omega) (get_coef hlt) ?_
    walk_at "go"
    refine w_ixTi (k := i) (c5.sqT hq) (by omega) (get_coef hi) ?_
    walk_at "go"
    refine w_mull hz ?_
    walk_at "go"
    refine w_setL (k := i) hl (by omega) (by rw [List.length_map]; exact hlt) fun H6 c6 h6 => ?_
    refine ⟨Ch.cut c5 nDH c6, l.set i (coef l i + z * coef r i), _, rfl, by rw [h6, ivs, ivs, List.map_set], by rw [List.length_set]; exact ll, fun k => ?_⟩
    rw [coef_set hlt]
    by_cases c : k = i
    · subst c
      rw [if_pos rfl, hc, coef_take, coef_take, if_neg (by omega), if_pos (by omega)]
      omega
    · rw [if_neg c, hc, coef_take, coef_take]
      by_cases c2' : k < i
      · rw [if_pos c2', if_pos (by omega)]
      · rw [if_neg c2', if_neg (by omega)]
  · rintro σ H5 ⟨c5, l, y, rfl, hl, ll, hc⟩
    walk_at "go"
    refine ⟨D, l, rfl, hl, by omega, fun t H6 c6 ht => ?_⟩
    have e : trim l = trim (padd p (pscale z r)) := trim_congr fun k => by
      rw [hc, coef_padd, coef_pscale, List.take_length]
    rw [e] at ht
    exact q _ _ (c5.trans c6) ht
/-! ### _law_times -/
theorem eqv_ints : ∀ p r : List Int, PyData.eqvAll (p.map PyData.int) (r.map PyData.int) = decide (p = r)
  | [], [] => by simp [PyData.eqvAll]
  | [], y :: r => by simp [PyData.eqvAll]
  | x :: p, [] => by simp [PyData.eqvAll]
  | x :: p, y :: r => by
    have ih := eqv_ints p r
    show (PyData.eqv (.int x) (.int y) && PyData.eqvAll (p.map PyData.int) (r.map PyData.int)) = _
    rw [ih]
    show ((x == y) && decide (p = r)) = _
    by_cases h : x = y
    · subst h
      simp
    · simp [h]
theorem dp_ivs {K : PySem.W.Frag} {H : Hp} : ∀ p : List Int, DpAll K H (ivs p) (p.map PyData.int)
  | [] => .nil
  | x :: p => .cons (.int x) (dp_ivs p)
theorem lay_ints : ∀ p : List Int, PyData.canLayAll0 (p.map PyData.int) = true
  | [] => rfl
  | x :: p => by
    show (PyData.canLay0 (.int x) && PyData.canLayAll0 (p.map PyData.int)) = true
    rw [lay_ints p]
    rfl
theorem depth_ints : ∀ p : List Int, PyData.depthAll (p.map PyData.int) = 0
  | [] => rfl
  | x :: p => by
    show max (PyData.depth (.int x)) (PyData.depthAll (p.map PyData.int)) = 0
    rw [depth_ints p]
    rfl
theorem shaped_ints (p : List Int) : SeqAt.shaped (.tuple (p.map PyData.int)) = true := by
  show (PyData.canLayAll0 (p.map PyData.int) && decide (PyData.depthAll (p.map PyData.int) + 1 ≤ 64)) = true
  rw [lay_ints, depth_ints]
  rfl
theorem shapedL_ints (p : List Int) : SeqAt.shaped (.list (p.map PyData.int)) = true := by
  show (PyData.canLayAll0 (p.map PyData.int) && decide (PyData.depthAll (p.map PyData.int) + 1 ≤ 64)) = true
  rw [lay_ints, depth_ints]
  rfl
theorem w_eqT {K : PySem.W.Frag} {H : Hp} {Q : VK} {a b : Addr} {p r : List Int} (h1 : SqT K H a (ivs p)) (h2 : SqT K H b (ivs r)) (q : Q (.bl (decide (p = r))) H) : rEqD K (.ref a) (.ref b) H Q :=
  ⟨_, _, .tup h1 (dp_ivs p), .tup h2 (dp_ivs r), shaped_ints p, shaped_ints r, by
    show Q (.bl (PyData.eqvAll (p.map PyData.int) (r.map PyData.int))) H
    rw [eqv_ints]
    exact q⟩
theorem w_neT {K : PySem.W.Frag} {H : Hp} {Q : VK} {a b : Addr} {p r : List Int} (h1 : SqT K H a (ivs p)) (h2 : SqT K H b (ivs r)) (q : Q (.bl (!decide (p = r))) H) : rNeD K (.ref a) (.ref b) H Q :=
  ⟨_, _, .tup h1 (dp_ivs p), .tup h2 (dp_ivs r), shaped_ints p, shaped_ints r, by
    show Q (.bl (!PyData.eqvAll (p.map PyData.int) (r.map PyData.int))) H
    rw [eqv_ints]
    exact q⟩
theorem w_eqL {K : PySem.W.Frag} {H : Hp} {Q : VK} {a b : Addr} {p r : List Int} (h1 : SqL K H a (ivs p)) (h2 : SqL K H b (ivs r)) (q : Q (.bl (decide (p = r))) H) : rEqD K (.ref a) (.ref b) H Q :=
  ⟨_, _, .lst h1 (dp_ivs p), .lst h2 (dp_ivs r), shapedL_ints p, shapedL_ints r, by
    show Q (.bl (PyData.eqvAll (p.map PyData.int) (r.map PyData.int))) H
    rw [eqv_ints]
    exact q⟩
end
end My

namespace My
open PySem PySem.Spec PyProof.Rows L2
section
variable {P : Program} {w : World} {K : PySem.W.Frag} {mg : Str → Option Value} {base : Heap}
/-! ### _law_times -/
abbrev s__law_times : Stmt := topS 29
theorem sc__law_times : FnScope ["p", "q", "numbers", "i", "j"] ["p", "q"] (defScope s__law_times) := ⟨rfl, rfl, rfl, by decide +kernel, rfl, by decide +kernel, by decide +kernel⟩
def sp__law_times (K : PySem.W.Frag) : Sp := fun vs H Q _ => ∃ (a b : Addr) (p r : List Int) (n : Nat), vs = [.ref a, .ref b] ∧ SqT K H a (ivs p) ∧ SqT K H b (ivs r) ∧ p.length ≤ 1000 ∧ r.length ≤ 1000 ∧ Fit n p ∧ Fit n r ∧ n ≤ 60000000 ∧ RetT K H Q (trim (pmul p r))
theorem c__law_times (T : Txt mg) (C__law_trim : Cal P w K mg base 1 "_law_trim" (sp__law_trim K)) {f : Addr} {fd : FuncData} (F : DefF K mg "_law_times" s__law_times ["p", "q"] f fd) : Cal P w K mg base 2 "_law_times" (sp__law_times K) := by
  refine cal_of F sc__law_times (fun vs H Q E h => by obtain ⟨_, _, _, _, _, rfl, _⟩ := h; rfl) (fun cdv A outer s H vs Q E hr h => ?_)
  obtain ⟨a, b, p, r, n, rfl, hp, hq, lp, lr, fp, fr, hn, q⟩ := h
  refine ⟨_, (pss_cons (ps_if (PW.pt (pw_or (pt_cmpR (k_eqD (K := K) rfl hr.units) (pv 0) (pe_tup pa_nil) (nomark _)) (pw_or1 (pt_cmpR (k_eqD (K := K) rfl hr.units) (pv 1) (pe_tup pa_nil) (nomark _))))) (pss_one (ps_ret (pe_tup pa_nil))) pss_nil)
 (pss_cons (ps_set (i := 2) sc__law_times.nd rfl (Or.inl rfl) (pe_op op_rep (pe_lst (pa_cons pe_int pa_nil)) (pe_op op_sub (pe_op op_add (pe_callB (k_len (K := K) rfl) (by rfl) T.z_len PySem.boot_len (pa_cons (pv 0) pa_nil)) (pe_callB (k_len (K := K) rfl) (by rfl) T.z_len PySem.boot_len (pa_cons (pv 1) pa_nil))) pe_int)))
 (pss_cons (ps_for PassesOwn.never rfl (pi_range1 (by rfl) T.z_range (pa_cons (pe_callB (k_len (K := K) rfl) (by rfl) T.z_len PySem.boot_len (pa_cons (pv 0) pa_nil)) pa_nil)) (pg_name (i := 3) sc__law_times.nd rfl (Or.inl rfl)) (pss_one (ps_for PassesOwn.never rfl (pi_range1 (by rfl) T.z_range (pa_cons (pe_callB (k_len (K := K) rfl) (by rfl) T.z_len PySem.boot_len (pa_cons (pv 1) pa_nil)) pa_nil)) (pg_name (i := 4) sc__law_times.nd rfl (Or.inl rfl)) (pss_one (ps_asg (pe_op op_add (pe_ix (k_ixL (K := K) rfl) (pv 2) (pe_op op_add (pv 3) (pv 4)) (fun _ _ => rfl)) (pe_op op_mulG (pe_ix (k_ixT (K := K) rfl) (pv 0) (pv 3) (fun _ _ => rfl)) (pe_ix (k_ixT (K := K) rfl) (pv 1) (pv 4) (fun _ _ => rfl)))) (pg_sub (pv 2) (pe_op op_add (pv 3) (pv 4)) set_list))))))
 (pss_one (ps_ret (pe_cc C__law_trim hr (by decide) (by rfl) (pa_cons (pv 2) pa_nil))))))), ?_⟩
  refine w_start (σ := [some _, some _, none, none, none]) rfl ?_
  have nil1 : p = [] → trim (pmul p r) = [] := fun e => by rw [e]; rfl
  have nil2 : r = [] → trim (pmul p r) = [] := fun e => by
    subst e
    exact trim_eq isRow_nil fun k => by rw [coef_pmul_nil, coef_nil]
  walk_at "go"
  refine w_newT (Nat.zero_le _) fun e1 H1 n1 c1 h1 => ?_
  walk_at "go"
  refine w_eqT (r := []) (c1.sqT hp) (.of h1) ?_
  walk_at "go"
  refine ite_d (fun h0 => ?_) (fun h0 => ?_)
  · rw [if_pos rfl]
    walk_at "go"
    refine w_newT (Nat.zero_le _) fun t H2 n2 c2 h2 => ?_
    exact q _ _ (c1.trans c2) (.of (by rw [h2, nil1 h0]; rfl))
  walk_at "go"
  refine w_newT (Nat.zero_le _) fun e2 H2 n2 c2 h2 => ?_
  walk_at "go"
  refine w_eqT (r := []) ((c1.trans c2).sqT hq) (.of h2) ?_
  walk_at "go"
  refine ite_d (fun h3 => ?_) (fun h3 => ?_)
  · walk_at "go"
    refine w_newT (Nat.zero_le _) fun t H3 n3 c3 h4 => ?_
    exact q _ _ ((c1.trans c2).trans c3) (.of (by rw [h4, nil2 h3]; rfl))
  have lp0 := List.length_pos_iff.mpr h0
  have lr0 := List.length_pos_iff.mpr h3
  have c12 := c1.trans c2
  walk_at "go"
  refine w_newL (show 1 ≤ sizeLine by decide) fun l3 H3 n3 c3 h4 => ?_
  have c13 := c12.trans c3
  walk_at "go"
  refine w_lenTi (c13.sqT hp) ?_
  walk_at "go"
  refine w_lenTi (c13.sqT hq) ?_
  walk_at "go"
  refine w_rep0 (n := p.length + r.length - 1) h4 (by omega) (by omega) fun D H4 nD c4 hD => ?_
  have c14 := c13.trans c4
  have nDH : H D = none := c13.free nD
  walk_at "go"
  refine w_lenTi (c14.sqT hp) ?_
  walk_at "go"
  refine w_iR1r (by omega) (by omega) ?_
  refine for_R (n := p.length) (fun i σ H' => Ch [] H H' ∧ ∃ (l : List Int) (z3 z4 : Option V), σ = [some (.ref a), some (.ref b), some (.ref D), z3, z4] ∧ H' D = some (.lst (ivs l)) ∧ Acc p r l i 0)
    ⟨c14, _, none, none, rfl, hD, acc_zero p r⟩ ?_ ?_
  · rintro i σ H5 hi ⟨c5, l, z3, z4, rfl, hl, ac⟩
    walk_at "go"
    refine w_lenTi (c5.sqT hq) ?_
    walk_at "go"
    refine w_iR1r (by omega) (by omega) ?_
    refine for_R (n := r.length) (fun j σ H' => Ch [] H H' ∧ ∃ (l : List Int) (z4 : Option V), σ = [some (.ref a), some (.ref b), some (.ref D), some (.int (0 + (i : Int))), z4] ∧ H' D = some (.lst (ivs l)) ∧ Acc p r l i j)
      ⟨c5, l, z4, rfl, hl, ac⟩ ?_ ?_
    · rintro j σ H6 hj ⟨c6, l2, z5, rfl, hl2, ac2⟩
      have hlt : i + j < l2.length := by
        rw [ac2.1]
        omega
      walk_at "go"
      refine w_ixLi (k := i + j) hl2 (by omega) (get_coef hlt) ?_
      walk_at "go"
      refine w_ixTi (k := i) (c6.sqT hp) (by omega) (get_coef hi) ?_
      walk_at "go"
      refine w_ixTi (k := j) (c6.sqT hq) (by omega) (get_coef hj) ?_
      walk_at "go"
      refine w_I (mul_ok (fp.at (Nat.two_pow_pos _) i) (fr.at (Nat.two_pow_pos _) j) (by omega)) ?_
      walk_at "go"
      refine w_setL (k := i + j) hl2 (by omega) (by rw [List.length_map]; exact hlt) fun H7 c7 hl7 => ?_
      refine ⟨Ch.cut c6 nDH c7, _, _, rfl, ?_, acc_step ac2 hi hj⟩
      rw [hl7, ivs, ivs, List.map_set]
    · rintro σ H6 ⟨c6, l2, z5, rfl, hl2, ac2⟩
      exact ⟨c6, l2, _, _, rfl, hl2, acc_next ac2 hi⟩
  · rintro σ H5 ⟨c5, l, z3, z4, rfl, hl, ac⟩
    walk_at "go"
    refine ⟨D, l, rfl, hl, by rw [ac.1]; omega, fun t H6 c6 ht => ?_⟩
    rw [trim_congr (acc_end ac)] at ht
    exact q _ _ (c5.trans c6) ht
/-! ### _law_row -/
abbrev s__law_row : Stmt := topS 30
theorem sc__law_row : FnScope ["box", "most", "groups", "great", "size", "numbers", "k"] ["box", "most", "groups"] (defScope s__law_row) := ⟨rfl, rfl, rfl, by decide +kernel, rfl, by decide +kernel, by decide +kernel⟩
def sp__law_row (K : PySem.W.Frag) : Sp := fun vs H Q _ => ∃ (b c : Addr) (m g : Nat), vs = [.ref b, .int m, .int g] ∧ Box H b c ∧ m ≤ 100 ∧ g ≤ 100 ∧ ∀ (t : Addr) (p : List Int) H', IsRow p → p.length ≤ m → Fit (27 * g + 4) p → Ch [b] H H' → Box H' b c → SqT K H' t (ivs p) → Q (.ref t) H'
theorem c__law_row (T : Txt mg) (C__law_draw : Cal P w K mg base 2 "_law_draw" sp__law_draw) (C__law_number : Cal P w K mg base 3 "_law_number" sp__law_number) (C__law_trim : Cal P w K mg base 1 "_law_trim" (sp__law_trim K))
    {f : Addr} {fd : FuncData} (F : DefF K mg "_law_row" s__law_row ["box", "most", "groups"] f fd) : Cal P w K mg base 4 "_law_row" (sp__law_row K) := by
  refine cal_of F sc__law_row (fun vs H Q E h => by obtain ⟨_, _, _, _, rfl, _⟩ := h; rfl) (fun cdv A outer s H vs Q E hr h => ?_)
  obtain ⟨b, c, m, g, rfl, B, hm, hg, q⟩ := h
  refine ⟨_, (pss_cons (ps_set (i := 3) sc__law_row.nd rfl (Or.inl rfl) pe_int)
 (Evl.pss_cut (ps_if (PW.pt (pw_and (pt_cmpR op_gt (pv 2) pe_int (nomark _)) (pw_and1 (pt_cmpR op_eq (pe_cc C__law_draw hr (by decide) (by rfl) (pa_cons (pv 0) (pa_cons pe_int pa_nil))) pe_int (nomark _))))) (pss_one (ps_set (i := 3) sc__law_row.nd rfl (Or.inl rfl) (pe_op op_add pe_int (pe_cc C__law_draw hr (by decide) (by rfl) (pa_cons (pv 0) (pa_cons (pv 2) pa_nil)))))) pss_nil)
 (pss_cons (ps_set (i := 4) sc__law_row.nd rfl (Or.inl rfl) (pe_cc C__law_draw hr (by decide) (by rfl) (pa_cons (pv 0) (pa_cons pe_int pa_nil))))
 (Evl.pss_cut (ps_if (pt_cmpR op_eq (pe_cc C__law_draw hr (by decide) (by rfl) (pa_cons (pv 0) (pa_cons pe_int pa_nil))) pe_int (nomark _)) (pss_one (ps_set (i := 4) sc__law_row.nd rfl (Or.inl rfl) (pe_cc C__law_draw hr (by decide) (by rfl) (pa_cons (pv 0) (pa_cons (pe_op op_add (pv 1) pe_int) pa_nil))))) pss_nil)
 (pss_cons (ps_set (i := 5) sc__law_row.nd rfl (Or.inl rfl) (pe_lst pa_nil))
 (pss_cons (ps_for PassesOwn.never rfl (pi_range1 (by rfl) T.z_range (pa_cons (pe_callB (cb_min2 rfl) (by rfl) T.z_min (by decide +kernel) (pa_cons (pv 4) (pa_cons (pv 1) pa_nil))) pa_nil)) (pg_name (i := 6) sc__law_row.nd rfl (Or.inl rfl)) (pss_one (ps_expr (pe_bm PySem.F.plainAttrs_list PySem.F.slot_list_append PySem.F.type_list_append mt_append (pv 5) (pa_cons (pe_cc C__law_number hr (by decide) (by rfl) (pa_cons (pv 0) (pa_cons (pe_op op_mulG (pv 3) (pe_cc C__law_draw hr (by decide) (by rfl) (pa_cons (pv 0) (pa_cons pe_int pa_nil)))) pa_nil))) pa_nil)))))
 (pss_one (ps_ret (pe_cc C__law_trim hr (by decide) (by rfl) (pa_cons (pv 5) pa_nil)))))))))), ?_⟩
  refine w_start (σ := [some _, some _, some _, none, none, none, none]) rfl ?_
  walk_at "go"
  refine w_cut (M := fun σ' H' => Ch [b] H H' ∧ Box H' b c ∧ ∃ z : Nat, σ' = [some (.ref b), some (.int m), some (.int g), some (.int z), none, none, none] ∧ z ≤ g) ?_ ?_
  · walk_at "go"
    refine ite_d (fun h0 => ?_) (fun h0 => ?_)
    · walk_at "go"
      refine ⟨b, c, 8, rfl, B, by decide, by decide, fun r H1 r0 r1 c1 B1 => ?_⟩
      walk_at "go"
      refine ite_d (fun h1 => ?_) (fun h1 => ?_)
      · walk_at "go"
        refine ⟨b, c, g, rfl, B1, by omega, by omega, fun z H2 z0 z1 c2 B2 => ?_⟩
        walk_at "go"
        refine ⟨c1.trans c2, B2, (1 + z).toNat, ?_, by omega⟩
        have e : 1 + z = ((1 + z).toNat : Int) := by omega
        rw [← e]
        rfl
      · walk_at "go"
        exact ⟨c1, B1, 0, rfl, Nat.zero_le _⟩
    · rw [if_neg (by decide)]
      walk_at "go"
      exact ⟨.refl, B, 0, rfl, Nat.zero_le _⟩
  rintro σ' H1 ⟨c1, B1, z, rfl, hz⟩
  walk_at "go"
  refine ⟨b, c, 6, rfl, B1, by decide, by decide, fun r H2 r0 r1 c2 B2 => ?_⟩
  walk_at "go"
  refine w_cut (M := fun σ' H' => Ch [b] H H' ∧ Box H' b c ∧ ∃ y : Nat, σ' = [some (.ref b), some (.int m), some (.int g), some (.int z), some (.int y), none, none] ∧ y ≤ 200) ?_ ?_
  · walk_at "go"
    refine ⟨b, c, 6, rfl, B2, by decide, by decide, fun s' H3 s0 s1 c3 B3 => ?_⟩
    walk_at "go"
    refine ite_d (fun h1 => ?_) (fun h1 => ?_)
    · walk_at "go"
      refine ⟨b, c, m + 1, rfl, B3, by omega, by omega, fun y H4 y0 y1 c4 B4 => ?_⟩
      walk_at "go"
      refine ⟨((c1.trans c2).trans c3).trans c4, B4, y.toNat, ?_, by omega⟩
      have e : y = (y.toNat : Int) := by omega
      rw [← e]
      rfl
    · walk_at "go"
      refine ⟨(c1.trans c2).trans c3, B3, r.toNat, ?_, by omega⟩
      have e : r = (r.toNat : Int) := by omega
      rw [← e]
      rfl
  rintro σ' H3 ⟨c3, B3, y, rfl, hy⟩
  walk_at "go"
  refine w_newL (Nat.zero_le _) fun D H4 nD c4 hD => ?_
  obtain ⟨nbD, ncD⟩ := B3.ne nD
  have nDH : H D = none := c3.free nD
  walk_at "go"
  have em : (if (m : Int) < y then (m : Int) else y) = ((min y m : Nat) : Int) := by split <;> omega
  rw [em]
  refine w_iR1r (by omega) (by omega) ?_
  refine for_R (n := min y m) (fun i σ H' => Ch [b] H H' ∧ Box H' b c ∧ ∃ (l : List Int) (z6 : Option V), σ = [some (.ref b), some (.int m), some (.int g), some (.int z), some (.int y), some (.ref D), z6] ∧ H' D = some (.lst (ivs l)) ∧ l.length = i ∧ Fit (27 * g + 4) l)
    ⟨c3.trans0 c4, B3.mono c4, [], none, rfl, hD, rfl, fun x hx => by simp at hx⟩ ?_ ?_
  · rintro i σ H5 hi ⟨c5, B5, l, z6, rfl, hl, ll, fl⟩
    walk_at "go"
    refine ⟨.inl ⟨rfl, _, .of hl⟩, ?_⟩
    walk_at "go"
    refine ⟨b, c, 2, rfl, B5, by decide, by decide, fun r2 H6 a0 a1 c6 B6 => ?_⟩
    walk_at "go"
    refine w_mulr (by omega) ?_
    walk_at "go"
    have e : (z : Int) * r2 = ((z * r2.toNat : Nat) : Int) := by
      have : r2 = (r2.toNat : Int) := by omega
      rw [Int.natCast_mul, ← this]
    have zg : z * r2.toNat ≤ g := by
      have : r2.toNat ≤ 1 := by omega
      have := Nat.mul_le_mul_left z this
      omega
    rw [e]
    refine ⟨b, c, z * r2.toNat, rfl, B6, by omega, fun x H7 hx c7 B7 => ?_⟩
    have hl7 : H7 D = some (.lst (ivs l)) := c7.at1 nbD.symm (c6.at1 nbD.symm hl)
    walk_at "go"
    refine w_append hl7 (sz_lt (by rw [List.length_map]; omega)) fun H8 c8 h8 => ?_
    walk_at "go"
    refine ⟨Ch.cut ((c5.trans c6).trans c7) nDH c8, B7.mono1 c8 nbD ncD, l ++ [x], _, rfl, ?_, by rw [List.length_append, ll]; rfl, fun u hu => ?_⟩
    · rw [h8, ivs, ivs, List.map_append]
      rfl
    · rcases List.mem_append.mp hu with h | h
      · exact fl u h
      · rw [List.mem_singleton.mp h]
        exact abs_mono hx (by omega)
  · rintro σ H5 ⟨c5, B5, l, z6, rfl, hl, ll, fl⟩
    walk_at "go"
    refine ⟨D, l, rfl, hl, by omega, fun t H6 c6 ht => ?_⟩
    exact q t (trim l) _ (trim_row l) (Nat.le_trans (trim_len l) (by omega)) fl.trim (c5.trans0 c6) (B5.mono c6) ht
end
end My

namespace My
open PySem PySem.Spec PyProof.Rows L2
theorem coef_pmul_bd {a b : Nat} {q : List Int} (hq : Fit b q) : ∀ {p : List Int}, Fit a p → ∀ k, (coef (pmul p q) k).natAbs < 2 ^ (a + b + p.length)
  | [], _, k => by
    have e : coef (pmul [] q) k = 0 := coef_nil k
    rw [e]
    exact Nat.two_pow_pos _
  | x :: p, hp, k => by
    rw [coef_pmul_cons]
    have h1 := wide_lt (hp x (List.mem_cons_self ..)) (hq.at (Nat.two_pow_pos _) k)
    have ih := coef_pmul_bd hq (p := p) (fun y hy => hp y (List.mem_cons_of_mem _ hy)) (k - 1)
    have h2 : (if k = 0 then 0 else coef (pmul p q) (k - 1)).natAbs < 2 ^ (a + b + p.length) := by
      split
      · exact Nat.two_pow_pos _
      · exact ih
    have h3 := abs_add_lt (abs_mono h1 (show a + b ≤ a + b + p.length by omega)) h2
    rw [List.length_cons, ← Nat.add_assoc]
    exact h3
theorem fit_of_coef {n : Nat} {p : List Int} (h : ∀ k, (coef p k).natAbs < 2 ^ n) : Fit n p := fun x hx => by
  obtain ⟨k, hk, rfl⟩ := List.getElem_of_mem hx
  rw [← coef_lt hk]
  exact h k
theorem fit_pmul {a b : Nat} {p q : List Int} (hp : Fit a p) (hq : Fit b q) : Fit (a + b + p.length) (trim (pmul p q)) := fit_of_coef fun k => by
  rw [coef_trim]
  exact coef_pmul_bd hq hp k
theorem len_pmul (p q : List Int) : (trim (pmul p q)).length ≤ p.length + q.length - 1 := trim_len_le fun k hk => coef_pmul_ge p q k (by omega)
theorem Fit.mono {n m : Nat} {p : List Int} (h : Fit n p) (hm : n ≤ m) : Fit m p := fun x hx => abs_mono (h x hx) hm
section
variable {P : Program} {w : World} {K : PySem.W.Frag} {mg : Str → Option Value} {base : Heap}
/-! ### _law_fraction -/
abbrev s__law_fraction : Stmt := topS 31
theorem sc__law_fraction : FnScope ["box", "n", "d", "common"] ["box"] (defScope s__law_fraction) := ⟨rfl, rfl, rfl, by decide +kernel, rfl, by decide +kernel, by decide +kernel⟩
def sp__law_fraction (K : PySem.W.Frag) : Sp := fun vs H Q _ => ∃ (b c : Addr), vs = [.ref b] ∧ Box H b c ∧ ∀ (t : Addr) (n d : Int) H', 0 < d → n.natAbs < 2 ^ 140 → d.natAbs < 2 ^ 140 → Ch [b] H H' → Box H' b c → SqT K H' t (ivs [n, d]) → Q (.ref t) H'
theorem fdiv_le {n g : Int} (hg : 0 < g) : (n.fdiv g).natAbs ≤ n.natAbs := by
  rw [Int.fdiv_eq_ediv_of_nonneg n (by omega)]
  rcases Int.lt_or_le n 0 with h | h
  · have h1 : n ≤ n / g := by
      rw [Int.le_ediv_iff_mul_le hg]
      have : n * (g - 1) ≤ 0 := Int.mul_nonpos_of_nonpos_of_nonneg (by omega) (by omega)
      rw [Int.mul_sub, Int.mul_one] at this
      omega
    have h2 : n / g < 0 := Int.ediv_neg_of_neg_of_pos h hg
    omega
  · have h1 : n / g ≤ n := Int.ediv_le_self g h
    have h2 : 0 ≤ n / g := Int.ediv_nonneg h (by omega)
    omega
theorem c__law_fraction (T : Txt mg) (C__law_draw : Cal P w K mg base 2 "_law_draw" sp__law_draw) (C__law_number : Cal P w K mg base 3 "_law_number" sp__law_number) (C__law_gcd : Cal P w K mg base 1 "_law_gcd" sp__law_gcd)
    {f : Addr} {fd : FuncData} (F : DefF K mg "_law_fraction" s__law_fraction ["box"] f fd) : Cal P w K mg base 4 "_law_fraction" (sp__law_fraction K) := by
  refine cal_of F sc__law_fraction (fun vs H Q E h => by obtain ⟨_, _, rfl, _⟩ := h; rfl) (fun cdv A outer s H vs Q E hr h => ?_)
  obtain ⟨b, c, rfl, B, q⟩ := h
  refine ⟨_, (pss_cons (ps_set (i := 1) sc__law_fraction.nd rfl (Or.inl rfl) (pe_op op_sub (pe_cc C__law_draw hr (by decide) (by rfl) (pa_cons (pv 0) (pa_cons pe_int pa_nil))) pe_int))
 (pss_cons (ps_set (i := 2) sc__law_fraction.nd rfl (Or.inl rfl) (pe_op op_add pe_int (pe_cc C__law_draw hr (by decide) (by rfl) (pa_cons (pv 0) (pa_cons pe_int pa_nil)))))
 (Evl.pss_cut (ps_if (pt_cmpR op_eq (pe_cc C__law_draw hr (by decide) (by rfl) (pa_cons (pv 0) (pa_cons pe_int pa_nil))) pe_int (nomark _)) (pss_cons (ps_set (i := 1) sc__law_fraction.nd rfl (Or.inl rfl) (pe_cc C__law_number hr (by decide) (by rfl) (pa_cons (pv 0) (pa_cons pe_int pa_nil))))
 (pss_one (ps_set (i := 2) sc__law_fraction.nd rfl (Or.inl rfl) (pe_op op_add pe_int (pe_callB cb_abs (by rfl) T.z_abs (by decide +kernel) (pa_cons (pe_cc C__law_number hr (by decide) (by rfl) (pa_cons (pv 0) (pa_cons pe_int pa_nil))) pa_nil)))))) pss_nil)
 (pss_cons (ps_set (i := 3) sc__law_fraction.nd rfl (Or.inl rfl) (pe_cc C__law_gcd hr (by decide) (by rfl) (pa_cons (pv 1) (pa_cons (pv 2) pa_nil))))
 (pss_one (ps_ret (pe_tup (pa_cons (pe_op op_fdivG (pv 1) (pv 3)) (pa_cons (pe_op op_fdivG (pv 2) (pv 3)) pa_nil))))))))), ?_⟩
  refine w_start (σ := [some _, none, none, none]) rfl ?_
  walk_at "go"
  refine ⟨b, c, 41, rfl, B, by decide, by decide, fun r1 H1 r10 r11 c1 B1 => ?_⟩
  walk_at "go"
  refine ⟨b, c, 12, rfl, B1, by decide, by decide, fun r2 H2 r20 r21 c2 B2 => ?_⟩
  walk_at "go"
  refine w_cut (M := fun σ' H' => Ch [b] H H' ∧ Box H' b c ∧ ∃ n d : Int, σ' = [some (.ref b), some (.int n), some (.int d), none] ∧ 0 < d ∧ n.natAbs < 2 ^ 139 ∧ d.natAbs < 2 ^ 139) ?_ ?_
  · have p4 : (2 : Nat) ^ 5 ≤ 2 ^ 139 := Nat.pow_le_pow_right (by decide) (by decide)
    walk_at "go"
    refine ⟨b, c, 8, rfl, B2, by decide, by decide, fun r3 H3 r30 r31 c3 B3 => ?_⟩
    walk_at "go"
    refine ite_d (fun h0 => ?_) (fun h0 => ?_)
    · walk_at "go"
      refine ⟨b, c, 5, rfl, B3, by decide, fun z H4 hz c4 B4 => ?_⟩
      walk_at "go"
      refine ⟨b, c, 4, rfl, B4, by decide, fun y H5 hy c5 B5 => ?_⟩
      walk_at "go"
      refine ⟨(((c1.trans c2).trans c3).trans c4).trans c5, B5, z, 1 + y.natAbs, rfl, by omega, hz, ?_⟩
      have p1 : (2 : Nat) ^ (27 * 4 + 4) ≤ 2 ^ 138 := Nat.pow_le_pow_right (by decide) (by decide)
      have p2 : (2 : Nat) ^ 139 = 2 ^ 138 * 2 := Nat.pow_succ ..
      have p3 : 0 < (2 : Nat) ^ 138 := Nat.two_pow_pos _
      omega
    · walk_at "go"
      exact ⟨(c1.trans c2).trans c3, B3, r1 - 20, 1 + r2, rfl, by omega, Nat.lt_of_lt_of_le (show (r1 - 20).natAbs < 2 ^ 5 by omega) p4, Nat.lt_of_lt_of_le (show (1 + r2).natAbs < 2 ^ 5 by omega) p4⟩
  rintro σ' H3 ⟨c3, B3, n, d, rfl, hd, hn, hdf⟩
  walk_at "go"
  refine ⟨n, d, 139, rfl, hdf, by decide, ?_⟩
  obtain ⟨g0, gb⟩ := gcd_bd (n := n) hd hdf
  walk_at "go"
  refine w_I (div_ok (by omega) gb (by decide)) ?_
  walk_at "go"
  refine w_I (div_ok (by omega) gb (by decide)) ?_
  walk_at "go"
  refine w_newT (show 2 ≤ sizeLine by decide) fun t H4 n4 c4 ht => ?_
  refine q t _ _ _ ?_ ?_ ?_ (c3.trans0 c4) (B3.mono c4) (.of ht)
  · rw [Int.fdiv_eq_ediv_of_nonneg _ (by omega)]
    have dv : ((Nat.gcd n.natAbs d.natAbs : Nat) : Int) ∣ d := by
      have := Nat.gcd_dvd_right n.natAbs d.natAbs
      exact Int.ofNat_dvd_left.mpr this
    exact Int.ediv_pos_of_pos_of_dvd hd (by omega) dv
  · exact abs_mono (Nat.lt_of_le_of_lt (fdiv_le (by omega)) hn) (by decide)
  · exact abs_mono (Nat.lt_of_le_of_lt (fdiv_le (by omega)) hdf) (by decide)
/-! ### _law_nearby -/
abbrev s__law_nearby : Stmt := topS 32
theorem sc__law_nearby : FnScope ["p", "step"] ["p"] (defScope s__law_nearby) := ⟨rfl, rfl, rfl, by decide +kernel, rfl, by decide +kernel, by decide +kernel⟩
def sp__law_nearby (K : PySem.W.Frag) : Sp := fun vs H Q _ => ∃ (a : Addr) (p : List Int) (n : Nat), vs = [.ref a] ∧ SqT K H a (ivs p) ∧ p.length ≤ 1000 ∧ 1 ≤ n ∧ Fit n p ∧ ∀ (t : Addr) (r : List Int) H', IsRow r → r.length ≤ p.length + 1 → (p ≠ [] → r.length ≤ p.length) → Fit (n + 1) r → Ch [] H H' → SqT K H' t (ivs r) → Q (.ref t) H'
theorem c__law_nearby (T : Txt mg) (C__law_trim : Cal P w K mg base 1 "_law_trim" (sp__law_trim K)) {f : Addr} {fd : FuncData} (F : DefF K mg "_law_nearby" s__law_nearby ["p"] f fd) : Cal P w K mg base 2 "_law_nearby" (sp__law_nearby K) := by
  refine cal_of F sc__law_nearby (fun vs H Q E h => by obtain ⟨_, _, _, rfl, _⟩ := h; rfl) (fun cdv A outer s H vs Q E hr h => ?_)
  obtain ⟨a, p, n, rfl, hp, lp, hn, fp, q⟩ := h
  refine ⟨_, (pss_cons (ps_if (pt_cmpR (k_eqD (K := K) rfl hr.units) (pv 0) (pe_tup pa_nil) (nomark _)) (pss_one (ps_ret (pe_tup (pa_cons pe_int pa_nil)))) pss_nil)
 (pss_cons (ps_set (i := 1) sc__law_nearby.nd rfl (Or.inl rfl) (pe_op op_sub pe_int (pe_op op_mulG pe_int (pe_callTy cb_int (by rfl) T.z_int (by decide +kernel) (pa_cons (pe_cmpR op_gt (pe_ix (k_ixT (K := K) rfl) (pv 0) pe_int (fun _ _ => rfl)) pe_int (nomark _)) pa_nil)))))
 (pss_one (ps_ret (pe_cc C__law_trim hr (by decide) (by rfl) (pa_cons (pe_op op_cat (pe_lst (pa_cons (pe_op op_add (pe_ix (k_ixT (K := K) rfl) (pv 0) pe_int (fun _ _ => rfl)) (pv 1)) pa_nil)) (pe_callTy (k_list (K := K) rfl) (by rfl) T.z_list (by decide +kernel) (pa_cons (pe_slice (k_slT (K := K) rfl) (pv 0) (po_some pe_int) po_none) pa_nil))) pa_nil)))))), ?_⟩
  refine w_start (σ := [some _, none]) rfl ?_
  walk_at "go"
  refine w_newT (Nat.zero_le _) fun e1 H1 n1 c1 h1 => ?_
  walk_at "go"
  refine w_eqT (r := []) (c1.sqT hp) (.of h1) ?_
  walk_at "go"
  have one : (1 : Nat) < 2 ^ (n + 1) := Nat.one_lt_two_pow (by omega)
  refine ite_d (fun h0 => ?_) (fun h0 => ?_)
  · walk_at "go"
    refine w_newT (show 1 ≤ sizeLine by decide) fun t H2 n2 c2 h2 => ?_
    refine q t [1] _ (by simp [IsRow]) (by simp) (fun h => absurd h0 h) (fun x hx => ?_) (c1.trans c2) (.of h2)
    rw [List.mem_singleton.mp hx]
    exact one
  have lp0 := List.length_pos_iff.mpr h0
  walk_at "go"
  refine w_ixTi (k := 0) (c1.sqT hp) rfl (get_coef lp0) ?_
  walk_at "go"
  generalize hs : (1 : Int) - 2 * (if decide (0 < coef p 0) = true then 1 else 0) = step
  have hst : step = 1 ∨ step = -1 := by
    rw [← hs]
    split <;> simp
  have c1f : ∀ xs : List V, cutV xs (some 1) none = xs.drop 1 := fun xs => cut_from (xs := xs) (k := 1)
  refine w_ixTi (k := 0) (c1.sqT hp) rfl (get_coef lp0) ?_
  walk_at "go"
  refine w_newL (show 1 ≤ sizeLine by decide) fun l1 H2 n2 c2 h2 => ?_
  walk_at "go"
  refine w_slT ((c1.trans c2).sqT hp) fun t1 H3 c3 h3 => ?_
  rw [c1f, ivs, ← List.map_drop] at h3
  walk_at "go"
  refine w_listT h3 fun l2 H4 n4 c4 h4 => ?_
  walk_at "go"
  refine w_cat ((c3.trans c4).at0 h2) h4 (by simp only [List.length_cons, List.length_nil, List.length_map, List.length_drop]; exact sz_le (by omega)) fun l3 H5 n5 c5 h5 => ?_
  walk_at "go"
  refine ⟨l3, (coef p 0 + step) :: p.drop 1, rfl, h5, by rw [List.length_cons, List.length_drop]; omega, fun t H6 c6 ht => ?_⟩
  have ll := trim_len ((coef p 0 + step) :: p.drop 1)
  rw [List.length_cons, List.length_drop] at ll
  refine q t _ _ (trim_row _) (by omega) (fun _ => by omega) ?_ (((((c1.trans c2).trans c3).trans c4).trans c5).trans c6) ht
  refine Fit.trim fun x hx => ?_
  rcases List.mem_cons.mp hx with e | h
  · rw [e]
    exact abs_add_lt (fp.at (Nat.two_pow_pos _) 0) (show step.natAbs < 2 ^ n by
      have : (1 : Nat) < 2 ^ n := Nat.one_lt_two_pow (by omega)
      omega)
  · exact abs_mono (fp x (List.mem_of_mem_drop h)) (by omega)
/-! ### _law_inputs -/
abbrev s__law_inputs : Stmt := topS 33
theorem sc__law_inputs : FnScope ["box", "way", "a", "p", "d", "root", "one"] ["box"] (defScope s__law_inputs) := ⟨rfl, rfl, rfl, by decide +kernel, rfl, by decide +kernel, by decide +kernel⟩
/-- two rows and a fraction -/
structure Inp (K : PySem.W.Frag) (H : Hp) (u v t : Addr) (p d : List Int) (n m : Int) : Prop where
  u : SqT K H u (ivs p)
  v : SqT K H v (ivs d)
  t : SqT K H t (ivs [n, m])
  rp : IsRow p
  rd : IsRow d
  lp : p.length ≤ 13
  ld : d.length ≤ 13
  fp : Fit 140 p
  fd : Fit 140 d
  m0 : 0 < m
  fn : n.natAbs < 2 ^ 140
  fm : m.natAbs < 2 ^ 140
theorem Inp.mono {K : PySem.W.Frag} {L : List Addr} {H H' : Hp} {u v t : Addr} {p d : List Int} {n m : Int} (I : Inp K H u v t p d n m) (c : Ch L H H') : Inp K H' u v t p d n m :=
  { I with u := c.sqT I.u, v := c.sqT I.v, t := c.sqT I.t }
def sp__law_inputs (K : PySem.W.Frag) : Sp := fun vs H Q _ => ∃ (b c : Addr), vs = [.ref b] ∧ Box H b c ∧ ∀ (o u v t : Addr) (p d : List Int) (n m : Int) H', Inp K H' u v t p d n m → Ch [b] H H' → Box H' b c → SqT K H' o [.ref u, .ref v, .ref t] → Q (.ref o) H'
theorem neg_row {p : List Int} (h : IsRow p) : IsRow (p.map fun x => -x) := by
  rw [isRow_iff] at h ⊢
  rcases h with e | e
  · left
    rw [e]
    rfl
  · right
    rw [List.length_map, coef_map (f := fun x => -x) (by rfl)]
    omega
theorem c__law_inputs (T : Txt mg) (C__law_draw : Cal P w K mg base 2 "_law_draw" sp__law_draw) (C__law_fraction : Cal P w K mg base 4 "_law_fraction" (sp__law_fraction K)) (C__law_row : Cal P w K mg base 4 "_law_row" (sp__law_row K))
    (C__law_nearby : Cal P w K mg base 2 "_law_nearby" (sp__law_nearby K)) (C__law_times : Cal P w K mg base 2 "_law_times" (sp__law_times K))
    {f : Addr} {fd : FuncData} (F : DefF K mg "_law_inputs" s__law_inputs ["box"] f fd) : Cal P w K mg base 5 "_law_inputs" (sp__law_inputs K) := by
  refine cal_of F sc__law_inputs (fun vs H Q E h => by obtain ⟨_, _, rfl, _⟩ := h; rfl) (fun cdv A outer s H vs Q E hr h => ?_)
  obtain ⟨b, c, rfl, B, q⟩ := h
  refine ⟨_, (pss_cons (ps_set (i := 1) sc__law_inputs.nd rfl (Or.inl rfl) (pe_cc C__law_draw hr (by decide) (by rfl) (pa_cons (pv 0) (pa_cons pe_int pa_nil))))
 (pss_cons (ps_set (i := 2) sc__law_inputs.nd rfl (Or.inl rfl) (pe_cc C__law_fraction hr (by decide) (by rfl) (pa_cons (pv 0) pa_nil)))
 (pss_cons (ps_set (i := 3) sc__law_inputs.nd rfl (Or.inl rfl) (pe_cc C__law_row hr (by decide) (by rfl) (pa_cons (pv 0) (pa_cons pe_int (pa_cons pe_int pa_nil)))))
 (pss_cons (ps_set (i := 4) sc__law_inputs.nd rfl (Or.inl rfl) (pe_cc C__law_row hr (by decide) (by rfl) (pa_cons (pv 0) (pa_cons pe_int (pa_cons pe_int pa_nil)))))
 (Evl.pss_cut (ps_if (pt_cmpR op_eq (pv 1) pe_int (nomark _)) (pss_one (ps_set (i := 4) sc__law_inputs.nd rfl (Or.inl rfl) (pv 3))) (pss_one (ps_if (pt_cmpR op_eq (pv 1) pe_int (nomark _)) (pss_one (ps_set (i := 4) sc__law_inputs.nd rfl (Or.inl rfl) (pe_callTy (k_tuple (K := K) rfl) (by rfl) T.z_tuple (by decide +kernel) (pa_cons (pe_lc (own := [("one", 6)]) (g := gName 6) rfl sc__law_inputs.nd (k_piT (K := K) rfl (pv 3)) (blkOk_by (own := [("one", 6)]) (N := ["box", "way", "a", "p", "d", "root", "one"]) (sc := defScope s__law_inputs) (by decide +kernel)) (fun _ _ _ _ _ => pg_name (i := 6) sc__law_inputs.nd rfl (Or.inl rfl)) (fun _ _ _ _ _ => pts_nil) (fun _ _ _ _ _ => (pe_un un_neg (pv 6)))) pa_nil)))) (pss_one (ps_if (pt_cmpR op_eq (pv 1) pe_int (nomark _)) (pss_one (ps_set (i := 4) sc__law_inputs.nd rfl (Or.inl rfl) (pe_cc C__law_nearby hr (by decide) (by rfl) (pa_cons (pv 3) pa_nil)))) (pss_one (ps_if (pt_cmpR op_eq (pv 1) pe_int (nomark _)) (pss_cons (ps_set (i := 4) sc__law_inputs.nd rfl (Or.inl rfl) (pe_cc C__law_row hr (by decide) (by rfl) (pa_cons (pv 0) (pa_cons pe_int (pa_cons pe_int pa_nil)))))
 (pss_one (ps_set (i := 3) sc__law_inputs.nd rfl (Or.inl rfl) (pe_cc C__law_times hr (by decide) (by rfl) (pa_cons (pv 4) (pa_cons (pe_cc C__law_row hr (by decide) (by rfl) (pa_cons (pv 0) (pa_cons pe_int (pa_cons pe_int pa_nil)))) pa_nil)))))) (pss_one (ps_if (pt_cmpR op_eq (pv 1) pe_int (nomark _)) (pss_cons (ps_set (i := 5) sc__law_inputs.nd rfl (Or.inl rfl) (pe_op op_sub (pe_cc C__law_draw hr (by decide) (by rfl) (pa_cons (pv 0) (pa_cons pe_int pa_nil))) pe_int))
 (pss_cons (ps_set (i := 2) sc__law_inputs.nd rfl (Or.inl rfl) (pe_tup (pa_cons (pv 5) (pa_cons pe_int pa_nil))))
 (Evl.pss_cut (ps_if (pt_cmpR op_eq (pe_op op_mod (pe_callTy cb_int (by rfl) T.z_int (by decide +kernel) (pa_cons (pv 5) pa_nil)) pe_int) pe_int (nomark _)) (pss_one (ps_set (i := 2) sc__law_inputs.nd rfl (Or.inl rfl) (pe_tup (pa_cons (pv 5) (pa_cons pe_int pa_nil))))) pss_nil)
 (pss_one (ps_set (i := 3) sc__law_inputs.nd rfl (Or.inl rfl) (pe_cc C__law_times hr (by decide) (by rfl) (pa_cons (pe_tup (pa_cons (pe_un un_neg (pe_ix (k_ixT (K := K) rfl) (pv 2) pe_int (fun _ _ => rfl))) (pa_cons (pe_ix (k_ixT (K := K) rfl) (pv 2) pe_int (fun _ _ => rfl)) pa_nil))) (pa_cons (pe_cc C__law_row hr (by decide) (by rfl) (pa_cons (pv 0) (pa_cons pe_int (pa_cons pe_int pa_nil)))) pa_nil)))))))) pss_nil)))))))))
 (pss_one (ps_ret (pe_tup (pa_cons (pv 3) (pa_cons (pv 4) (pa_cons (pv 2) pa_nil))))))))))), ?_⟩
  refine w_start (σ := [some _, none, none, none, none, none, none]) rfl ?_
  walk_at "go"
  refine ⟨b, c, 8, rfl, B, by decide, by decide, fun way H1 w0 w1 c1 B1 => ?_⟩
  walk_at "go"
  refine ⟨b, c, rfl, B1, fun t n m H2 hm fn fm c2 B2 ht => ?_⟩
  walk_at "go"
  refine ⟨b, c, 13, 5, rfl, B2, by decide, by decide, fun u p H3 rp lp fp c3 B3 hu => ?_⟩
  walk_at "go"
  refine ⟨b, c, 13, 5, rfl, B3, by decide, by decide, fun v d H4 rd ld fd c4 B4 hv => ?_⟩
  have c14 := ((c1.trans c2).trans c3).trans c4
  have I4 : Inp K H4 u v t p d n m := ⟨c4.sqT hu, hv, (c3.trans c4).sqT ht, rp, rd, lp, ld, fp.mono (by decide), fd.mono (by decide), hm, fn, fm⟩
  walk_at "go"
  refine w_cut (M := fun σ' H' => Ch [b] H H' ∧ Box H' b c ∧ ∃ (u v t : Addr) (p d : List Int) (n m : Int) (z : Option V), σ' = [some (.ref b), some (.int way), some (.ref t), some (.ref u), some (.ref v), z, none] ∧ Inp K H' u v t p d n m) ?_ ?_
  · walk_at "go"
    refine ite_d (fun h1 => ?_) (fun h1 => ?_)
    · walk_at "go"
      exact ⟨c14, B4, u, u, t, p, p, n, m, none, rfl, { I4 with v := I4.u, rd := rp, ld := lp, fd := I4.fp }⟩
    walk_at "go"
    refine ite_d (fun h2 => ?_) (fun h2 => ?_)
    · walk_at "go"
      refine w_iTr I4.u ?_
      refine lc_Ti (fun x => .int (-x)) rfl I4.u (by omega) (fun x H5 hx c5 S kk => ?_) (fun D H5 nD c5 hD => ?_)
      · walk_at "go"
        exact kk _ .refl
      · walk_at "go"
        refine w_tupleL (.of hD) fun v2 H6 n6 c6 h6 => ?_
        refine ⟨(c14.trans0 c5).trans0 c6, (B4.mono c5).mono c6, u, v2, t, p, p.map fun x => -x, n, m, none, rfl, { (I4.mono c5).mono c6 with v := .of (by rw [h6, ivs, List.map_map]; rfl), rd := neg_row rp, ld := by rw [List.length_map]; exact lp, fd := fun x hx => ?_ }⟩
        obtain ⟨y, hy, rfl⟩ := List.mem_map.mp hx
        rw [Int.natAbs_neg]
        exact I4.fp y hy
    walk_at "go"
    refine ite_d (fun h3 => ?_) (fun h3 => ?_)
    · walk_at "go"
      refine ⟨u, p, 139, rfl, I4.u, by omega, by decide, fp, fun v2 r H5 rr lr lr2 fr c5 h5 => ?_⟩
      have l9 : r.length ≤ 13 := by
        by_cases e : p = []
        · rw [e] at lr
          simp at lr
          omega
        · have := lr2 e
          omega
      exact ⟨c14.trans0 c5, B4.mono c5, u, v2, t, p, r, n, m, none, rfl, { I4.mono c5 with v := h5, rd := rr, ld := l9, fd := fr.mono (by decide) }⟩
    walk_at "go"
    refine ite_d (fun h4 => ?_) (fun h4 => ?_)
    · walk_at "go"
      refine ⟨b, c, 6, 2, rfl, B4, by decide, by decide, fun v2 d2 H5 rd2 ld2 fd2 c5 B5 h5 => ?_⟩
      walk_at "go"
      refine ⟨b, c, 7, 2, rfl, B5, by decide, by decide, fun x2 e2 H6 re2 le2 fe2 c6 B6 h6 => ?_⟩
      walk_at "go"
      refine ⟨v2, x2, d2, e2, 58, rfl, c6.sqT h5, h6, by omega, by omega, fd2, fe2, by decide, fun u2 H7 c7 h7 => ?_⟩
      have l7 := len_pmul d2 e2
      exact ⟨((c14.trans c5).trans c6).trans0 c7, B6.mono c7, u2, v2, t, _, d2, n, m, none, rfl, { ((I4.mono c5).mono c6).mono c7 with u := h7, v := c7.sqT (c6.sqT h5), rp := trim_row _, rd := rd2, lp := by omega, ld := by omega, fp := (fit_pmul fd2 fe2).mono (by omega), fd := fd2.mono (by decide) }⟩
    walk_at "go"
    refine ite_d (fun h5 => ?_) (fun h5 => ?_)
    · walk_at "go"
      refine ⟨b, c, 13, rfl, B4, by decide, by decide, fun r H5 r0 r1 c5 B5 => ?_⟩
      have hrb : (r - 6).natAbs < 2 ^ 3 := by omega
      have hrb140 : (r - 6).natAbs < 2 ^ 140 := Nat.lt_of_lt_of_le hrb (Nat.pow_le_pow_right (by decide) (by decide))
      walk_at "go"
      generalize r - 6 = root at hrb hrb140 ⊢
      refine w_newT (show 2 ≤ sizeLine by decide) fun t2 H6 n6 c6 h6 => ?_
      walk_at "go"
      refine w_cut (M := fun σ' H' => Ch [b] H H' ∧ Box H' b c ∧ ∃ (t : Addr) (m : Int), σ' = [some (.ref b), some (.int way), some (.ref t), some (.ref u), some (.ref v), some (.int root), none] ∧ 0 < m ∧ m ≤ 2 ∧ Inp K H' u v t p d root m) ?_ ?_
      · walk_at "go"
        refine ite_d (fun h7 => ?_) (fun h7 => ?_)
        · walk_at "go"
          refine w_newT (show 2 ≤ sizeLine by decide) fun t3 H7 n7 c7 h8 => ?_
          exact ⟨((c14.trans c5).trans0 c6).trans0 c7, (B5.mono c6).mono c7, t3, 2, rfl, by decide, by decide, { ((I4.mono c5).mono c6).mono c7 with t := .of h8, m0 := by decide, fn := hrb140, fm := by decide }⟩
        · walk_at "go"
          exact ⟨(c14.trans c5).trans0 c6, B5.mono c6, t2, 1, rfl, by decide, by decide, { (I4.mono c5).mono c6 with t := .of h6, m0 := by decide, fn := hrb140, fm := by decide }⟩
      · rintro σ' H7 ⟨c7, B7, t3, m3, rfl, m30, m32, I7⟩
        walk_at "go"
        refine w_ixT (xs := [.int root, .int m3]) I7.t rfl ?_
        walk_at "go"
        refine w_ixT (xs := [.int root, .int m3]) I7.t rfl ?_
        walk_at "go"
        refine w_newT (show 2 ≤ sizeLine by decide) fun x1 H8 n8 c8 h8 => ?_
        walk_at "go"
        refine ⟨b, c, 12, 2, rfl, B7.mono c8, by decide, by decide, fun x2 e2 H9 re2 le2 fe2 c9 B9 h9 => ?_⟩
        have f0 : Fit 3 [-root, m3] := fun x hx => by
          rcases List.mem_cons.mp hx with e | hx
          · rw [e, Int.natAbs_neg]
            exact hrb
          · rw [List.mem_singleton.mp hx]
            omega
        walk_at "go"
        refine ⟨x1, x2, [-root, m3], e2, 58, rfl, c9.sqT (.of h8), h9, (show 2 ≤ 1000 by decide), by omega, f0.mono (by decide), fe2, by decide, fun u2 H10 c10 h10 => ?_⟩
        have l7 := len_pmul [-root, m3] e2
        rw [List.length_cons, List.length_cons, List.length_nil] at l7
        exact ⟨((c7.trans0 c8).trans c9).trans0 c10, B9.mono c10, u2, v, t3, _, d, root, m3, _, rfl, { ((I7.mono c8).mono c9).mono c10 with u := h10, rp := trim_row _, lp := by omega, fp := (fit_pmul f0 fe2).mono (show 3 + (27 * 2 + 4) + 2 ≤ 140 by decide) }⟩
    · walk_at "go"
      exact ⟨c14, B4, u, v, t, p, d, n, m, none, rfl, I4⟩
  · rintro σ' H5 ⟨c5, B5, u, v, t, p, d, n, m, z, rfl, I5⟩
    walk_at "go"
    refine w_newT (show 3 ≤ sizeLine by decide) fun o H6 n6 c6 h6 => ?_
    exact q o u v t p d n m _ (I5.mono c6) (c5.trans0 c6) (B5.mono c6) (.of h6)
end
end My

namespace My
open PySem PySem.Spec PyProof.Rows L2
theorem ite_ndf {A B P : Prop} [Decidable P] (p : P) (h : B) : if (!decide P) = true then A else B := by rw [if_neg (by simp [p])]; exact h
theorem ite_ndt {A B P : Prop} [Decidable P] (p : ¬ P) (h : A) : if (!decide P) = true then A else B := by rw [if_pos (by simp [p])]; exact h
section
variable {P : Program} {w : World} {K : PySem.W.Frag} {mg : Str → Option Value} {base : Heap}
/-! ### _law_is_row -/
abbrev s__law_is_row : Stmt := topS 35
theorem sc__law_is_row : FnScope ["thing", "one"] ["thing"] (defScope s__law_is_row) := ⟨rfl, rfl, rfl, by decide +kernel, rfl, by decide +kernel, by decide +kernel⟩
def sp__law_is_row (K : PySem.W.Frag) : Sp := fun vs H Q _ => ∃ (a : Addr) (p : List Int), vs = [.ref a] ∧ SqT K H a (ivs p) ∧ IsRow p ∧ p.length ≤ 1000 ∧ ∀ H', Ch [] H H' → Q (.bl true) H'
theorem c__law_is_row (T : Txt mg) (C__law_is_int : Cal P w K mg base 1 "_law_is_int" sp__law_is_int) {f : Addr} {fd : FuncData} (F : DefF K mg "_law_is_row" s__law_is_row ["thing"] f fd) : Cal P w K mg base 2 "_law_is_row" (sp__law_is_row K) := by
  refine cal_of F sc__law_is_row (fun vs H Q E h => by obtain ⟨_, _, rfl, _⟩ := h; rfl) (fun cdv A outer s H vs Q E hr h => ?_)
  obtain ⟨a, p, rfl, hp, rp, lp, q⟩ := h
  refine ⟨_, (pss_cons (ps_if (PW.pt (pw_or (pt_not (pt_val (pe_callB (k_isi (K := K) rfl) (by rfl) T.z_isinstance (by decide +kernel) (pa_cons (pv 0) (pa_cons (pe_bltn (by rfl) T.z_tuple (by decide +kernel) (v := .ty "tuple") rfl) pa_nil))))) (pw_or1 (pt_not (pt_val (pe_callB (k_all (K := K) rfl rfl) (by rfl) T.z_all (by decide +kernel) (pa_cons (pe_lc (own := [("one", 1)]) (g := gName 1) rfl sc__law_is_row.nd (k_piT (K := K) rfl (pv 0)) (blkOk_by (own := [("one", 1)]) (N := ["thing", "one"]) (sc := defScope s__law_is_row) (by decide +kernel)) (fun _ _ _ _ _ => pg_name (i := 1) sc__law_is_row.nd rfl (Or.inl rfl)) (fun _ _ _ _ _ => pts_nil) (fun _ _ _ _ _ => (pe_cc C__law_is_int hr (by decide) (by rfl) (pa_cons (pv 1) pa_nil)))) pa_nil))))))) (pss_one (ps_ret pe_bl)) pss_nil)
 (pss_one (ps_ret (pe_or (pe_cmpR (k_eqD (K := K) rfl hr.units) (pv 0) (pe_tup pa_nil) (nomark _)) (pe_one (pe_cmpR op_ne (pe_ix (k_ixT (K := K) rfl) (pv 0) (pe_un un_neg pe_int) (fun _ _ => rfl)) pe_int (nomark _))))))), ?_⟩
  refine w_start (σ := [some _, none]) rfl ?_
  walk_at "go"
  refine w_isiTT hp ?_
  walk_at "go"
  rw [if_neg (by decide)]
  walk_at "go"
  refine w_iTr hp ?_
  refine lc_Ti (fun _ => .bl true) rfl hp (by omega) (fun x H1 hx c S kk => ?_) (fun D H1 nD c hD => ?_)
  · walk_at "go"
    refine ⟨x, rfl, ?_⟩
    exact kk _ .refl
  · walk_at "go"
    refine w_all (bs := p.map fun _ => true) (.of (by rw [hD, List.map_map]; rfl)) ?_
    walk_at "go"
    have ea : (p.map fun _ => true).all id = true := by simp
    rw [ea, if_neg (by decide)]
    walk_at "go"
    refine w_newT (Nat.zero_le _) fun e H2 n2 c2 h2 => ?_
    walk_at "go"
    refine w_eqT (r := []) ((c.trans c2).sqT hp) (.of h2) ?_
    walk_at "go"
    refine ite_d (fun h0 => ?_) (fun h0 => ?_)
    · exact q _ (c.trans c2)
    · walk_at "go"
      refine w_ixT ((c.trans c2).sqT hp) (last_at h0) ?_
      walk_at "go"
      have e := (isRow_iff.mp rp).resolve_left h0
      rw [decide_eq_false e]
      exact q _ (c.trans c2)
/-! ### _law_value -/
abbrev s__law_value : Stmt := topS 36
theorem sc__law_value : FnScope ["p", "a", "top", "bottom", "k", "common"] ["p", "a"] (defScope s__law_value) := ⟨rfl, rfl, rfl, by decide +kernel, rfl, by decide +kernel, by decide +kernel⟩
def sp__law_value (K : PySem.W.Frag) : Sp := fun vs H Q _ => ∃ (a b : Addr) (p : List Int) (n d : Int) (m : Nat), vs = [.ref a, .ref b] ∧ SqT K H a (ivs p) ∧ SqT K H b (ivs [n, d]) ∧ p.length ≤ 1000 ∧ n.natAbs < 2 ^ m ∧ d.natAbs < 2 ^ m ∧ 0 < d ∧ Fit m p ∧ m * p.length + 1 ≤ 9000 ∧ m ≤ 9000 ∧ RetT K H Q (ratio (horner n d p) (d ^ (p.length - 1)))
theorem c__law_value (T : Txt mg) (C__law_gcd : Cal P w K mg base 1 "_law_gcd" sp__law_gcd) {f : Addr} {fd : FuncData} (F : DefF K mg "_law_value" s__law_value ["p", "a"] f fd) : Cal P w K mg base 2 "_law_value" (sp__law_value K) := by
  refine cal_of F sc__law_value (fun vs H Q E h => by obtain ⟨_, _, _, _, _, _, rfl, _⟩ := h; rfl) (fun cdv A outer s H vs Q E hr h => ?_)
  obtain ⟨a, b, p, n, d, m, rfl, hp, hb, hl, hn, hd, hd0, fp, hm, hm9, q⟩ := h
  refine ⟨_, (pss_cons (ps_set (i := 2) sc__law_value.nd rfl (Or.inl rfl) pe_int)
 (pss_cons (ps_set (i := 3) sc__law_value.nd rfl (Or.inl rfl) pe_int)
 (pss_cons (ps_for PassesOwn.never rfl (pi_range1 (by rfl) T.z_range (pa_cons (pe_callB (k_len (K := K) rfl) (by rfl) T.z_len PySem.boot_len (pa_cons (pv 0) pa_nil)) pa_nil)) (pg_name (i := 4) sc__law_value.nd rfl (Or.inl rfl)) (pss_cons (ps_set (i := 2) sc__law_value.nd rfl (Or.inl rfl) (pe_op op_add (pe_op op_mulG (pv 2) (pe_ix (k_ixT (K := K) rfl) (pv 1) pe_int (fun _ _ => rfl))) (pe_op op_mulG (pe_ix (k_ixT (K := K) rfl) (pv 0) (pe_op op_sub (pe_op op_sub (pe_callB (k_len (K := K) rfl) (by rfl) T.z_len PySem.boot_len (pa_cons (pv 0) pa_nil)) pe_int) (pv 4)) (fun _ _ => rfl)) (pv 3))))
 (pss_one (ps_set (i := 3) sc__law_value.nd rfl (Or.inl rfl) (pe_op op_mulG (pv 3) (pe_ix (k_ixT (K := K) rfl) (pv 1) pe_int (fun _ _ => rfl)))))))
 (Evl.pss_cut (ps_if (pt_cmpR (k_neD (K := K) rfl hr.units) (pv 0) (pe_tup pa_nil) (nomark _)) (pss_one (ps_set (i := 3) sc__law_value.nd rfl (Or.inl rfl) (pe_op op_fdivG (pv 3) (pe_ix (k_ixT (K := K) rfl) (pv 1) pe_int (fun _ _ => rfl))))) pss_nil)
 (pss_cons (ps_set (i := 5) sc__law_value.nd rfl (Or.inl rfl) (pe_cc C__law_gcd hr (by decide) (by rfl) (pa_cons (pv 2) (pa_cons (pv 3) pa_nil))))
 (pss_one (ps_ret (pe_tup (pa_cons (pe_op op_fdivG (pv 2) (pv 5)) (pa_cons (pe_op op_fdivG (pv 3) (pv 5)) pa_nil)))))))))), ?_⟩
  refine w_start (σ := [some _, some _, none, none, none, none]) rfl ?_
  have hb' : SqT K H b [.int n, .int d] := hb
  have hmp : ∀ i : Nat, i ≤ 1000 → (m + 2) * i ≤ 9002000 := fun i hi => Nat.le_trans (Nat.mul_le_mul (show m + 2 ≤ 9002 by omega) hi) (by decide)
  have hmp2 : ∀ i : Nat, i ≤ 1000 → m * i ≤ 9000000 := fun i hi => Nat.le_trans (Nat.mul_le_mul hm9 hi) (by decide)
  have hbd : ∀ i : Nat, (horner n d (p.drop i)).natAbs < 2 ^ ((m + 2) * p.length + 1) := fun i => abs_mono (horner_bd hn hd _ fun x hx => fp x (List.mem_of_mem_drop hx)) (by
    have := Nat.mul_le_mul_left (m + 2) (show (p.drop i).length ≤ p.length by rw [List.length_drop]; omega)
    omega)
  have hpw : ∀ i : Nat, (d ^ i).natAbs < 2 ^ (m * i + 1) := fun i => abs_pow_lt hd
  walk_at "go"
  refine w_lenTi hp ?_
  walk_at "go"
  refine w_iR1r (by omega) (by omega) ?_
  refine for_R (n := p.length) (fun i σ H' => H' = H ∧ ∃ z, σ = [some (.ref a), some (.ref b), some (.int (horner n d (p.drop (p.length - i)))), some (.int (d ^ i)), z, none])
    ⟨rfl, none, ?_⟩ ?_ ?_
  · rw [Nat.sub_zero, List.drop_length, Int.pow_zero]
    rfl
  · rintro i σ H' hi ⟨rfl, z, rfl⟩
    have l1 := hmp p.length hl
    have l2 := hmp2 i (by omega)
    walk_at "go"
    refine w_I (mul_ok (hbd _) hn (by omega)) ?_
    walk_at "go"
    refine w_lenTi hp ?_
    walk_at "go"
    refine w_ixTi (k := p.length - 1 - i) hp (by omega) (get_coef (by omega)) ?_
    walk_at "go"
    refine w_I (mul_ok (fp.at (Nat.two_pow_pos _) _) (hpw i) (by omega)) ?_
    walk_at "go"
    refine w_I (mul_ok (hpw i) hd (by omega)) ?_
    refine ⟨rfl, some (.int (0 + (i : Int))), ?_⟩
    have e1 : p.length - (i + 1) = p.length - 1 - i := by omega
    rw [e1, horner_drop (show p.length - 1 - i < p.length by omega), show p.length - 1 - i + 1 = p.length - i by omega, show p.length - (p.length - i) = i by omega, Int.pow_succ]
    rfl
  · rintro σ H' ⟨rfl, z, rfl⟩
    rw [Nat.sub_self, List.drop_zero]
    walk_at "go"
    refine w_cut (M := fun σ' H1 => Ch [] H' H1 ∧ σ' = [some (.ref a), some (.ref b), some (.int (horner n d p)), some (.int (d ^ (p.length - 1))), z, none]) ?_ ?_
    · walk_at "go"
      refine w_newT (Nat.zero_le _) fun e H2 n2 c2 h2 => ?_
      walk_at "go"
      refine w_neT (r := []) (c2.sqT hp) (.of h2) ?_
      walk_at "go"
      refine ite_nd (fun h0 => ?_) (fun h0 => ?_)
      · have lp0 := List.length_pos_iff.mpr h0
        have hb2 := c2.sqT hb'
        walk_at "go"
        refine w_I (div_ok (by omega) hd hm9) ?_
        refine ⟨c2, ?_⟩
        have e1 : (d ^ p.length).fdiv d = d ^ (p.length - 1) := by
          have e2 : p.length = p.length - 1 + 1 := by omega
          conv => lhs; rw [e2, Int.pow_succ, Int.mul_comm]
          exact Int.mul_fdiv_cancel_left _ (by omega)
        rw [e1]
        rfl
      · subst h0
        walk_at "go"
        exact ⟨c2, rfl⟩
    · rintro σ' H1 ⟨c1, rfl⟩
      have hw : (d ^ (p.length - 1)).natAbs < 2 ^ (m * p.length + 1) := abs_mono (hpw _) (by
        have := Nat.mul_le_mul_left m (show p.length - 1 ≤ p.length by omega)
        omega)
      have pos : 0 < d ^ (p.length - 1) := Int.pow_pos hd0
      obtain ⟨g0, gb⟩ := gcd_bd (n := horner n d p) pos hw
      walk_at "go"
      refine ⟨_, _, m * p.length + 1, rfl, hw, by omega, ?_⟩
      walk_at "go"
      refine w_I (div_ok (by omega) gb hm) ?_
      walk_at "go"
      refine w_I (div_ok (by omega) gb hm) ?_
      walk_at "go"
      refine w_newT (show 2 ≤ sizeLine by decide) fun t H2 n2 c2 h2 => q _ _ (c1.trans c2) (.of ?_)
      rw [h2, Int.fdiv_eq_ediv_of_nonneg _ (by omega), Int.fdiv_eq_ediv_of_nonneg _ (by omega)]
      rfl
theorem ratio_mul {t s d : Int} (hd : 0 < d) : ratio (t * d) (s * d) = ratio t s := by
  unfold ratio
  have e : ((Nat.gcd (t * d).natAbs (s * d).natAbs : Nat) : Int) = (Nat.gcd t.natAbs s.natAbs : Nat) * d := by
    rw [Int.natAbs_mul, Int.natAbs_mul, Nat.gcd_mul_right, Int.natCast_mul]
    congr 1
    omega
  rw [e, Int.mul_ediv_mul_of_pos_left _ _ hd, Int.mul_ediv_mul_of_pos_left _ _ hd]
theorem value_eq {n d : Int} (hd : 0 < d) (p : List Int) : ratio (horner n d p * d) (d ^ p.length) = ratio (horner n d p) (d ^ (p.length - 1)) := by
  by_cases h : p = []
  · subst h
    show ratio (0 * d) (d ^ 0) = ratio 0 (d ^ 0)
    rw [Int.zero_mul]
  · have := List.length_pos_iff.mpr h
    have e : d ^ p.length = d ^ (p.length - 1) * d := by
      rw [← Int.pow_succ]
      congr 1
      omega
    rw [e, ratio_mul hd]
/-! ### _law_made -/
abbrev s__law_made : Stmt := topS 37
theorem sc__law_made : FnScope ["box", "p", "kept", "handed", "told"] ["box", "p"] (defScope s__law_made) := ⟨rfl, rfl, rfl, by decide +kernel, rfl, by decide +kernel, by decide +kernel⟩
def sp__law_made (K : PySem.W.Frag) : Sp := fun vs H Q _ => ∃ (b c a : Addr) (p : List Int), vs = [.ref b, .ref a] ∧ Box H b c ∧ SqT K H a (ivs p) ∧ IsRow p ∧ p.length ≤ 100 ∧ ∀ H', Ch [b] H H' → Box H' b c → Q (.bl true) H'
theorem c__law_made (T : Txt mg) (C__law_draw : Cal P w K mg base 2 "_law_draw" sp__law_draw) (C_make_row : Cal P w K mg base 1 "make_row" (sp_make_row K)) (C__law_same : Cal P w K mg base 2 "_law_same" (sp__law_same K))
    {f : Addr} {fd : FuncData} (F : DefF K mg "_law_made" s__law_made ["box", "p"] f fd) : Cal P w K mg base 3 "_law_made" (sp__law_made K) := by
  refine cal_of F sc__law_made (fun vs H Q E h => by obtain ⟨_, _, _, _, rfl, _⟩ := h; rfl) (fun cdv A outer s H vs Q E hr h => ?_)
  obtain ⟨b, c, a, p, rfl, B, hp, rp, lp, q⟩ := h
  refine ⟨_, (pss_cons (ps_set (i := 2) sc__law_made.nd rfl (Or.inl rfl) (pe_op op_cat (pe_callTy (k_list (K := K) rfl) (by rfl) T.z_list (by decide +kernel) (pa_cons (pv 1) pa_nil)) (pe_op op_rep (pe_lst (pa_cons pe_int pa_nil)) (pe_cc C__law_draw hr (by decide) (by rfl) (pa_cons (pv 0) (pa_cons pe_int pa_nil))))))
 (pss_cons (ps_set (i := 3) sc__law_made.nd rfl (Or.inl rfl) (pe_callTy (k_list (K := K) rfl) (by rfl) T.z_list (by decide +kernel) (pa_cons (pv 2) pa_nil)))
 (pss_cons (ps_set (i := 4) sc__law_made.nd rfl (Or.inl rfl) (pe_cc C_make_row hr (by decide) (by rfl) (pa_cons (pv 3) pa_nil)))
 (pss_one (ps_ret (pe_and (pe_cc C__law_same hr (by decide) (by rfl) (pa_cons (pv 4) (pa_cons (pv 1) pa_nil))) (pe_one (pe_cmpR (k_eqD (K := K) rfl hr.units) (pv 3) (pv 2) (nomark _))))))))), ?_⟩
  refine w_start (σ := [some _, some _, none, none, none]) rfl ?_
  walk_at "go"
  refine w_listT hp fun l1 H1 n1 c1 h1 => ?_
  walk_at "go"
  refine w_newL (show 1 ≤ sizeLine by decide) fun l2 H2 n2 c2 h2 => ?_
  have B2 := (B.mono c1).mono c2
  obtain ⟨e1, e2⟩ := (B.mono c1).ne n2
  have nb1 := (B.ne n1).1
  walk_at "go"
  refine ⟨b, c, 4, rfl, B2, by decide, by decide, fun r H3 r0 r1 c3 B3 => ?_⟩
  have h23 := c3.at1 e1.symm h2
  have h13 := c3.at1 nb1.symm (c2.at0 h1)
  walk_at "go"
  refine w_rep0 (n := r.toNat) h23 (by omega) (by omega) fun l3 H4 n4 c4 h4 => ?_
  walk_at "go"
  refine w_cat (c4.at0 h13) h4 (by walk_at "sz") fun l4 H5 n5 c5 h5 => ?_
  rw [ivs, ivs, ← List.map_append] at h5
  walk_at "go"
  refine w_listL (.of h5) fun l5 H6 n6 c6 h6 => ?_
  walk_at "go"
  refine ⟨l5, _, rfl, h6, by rw [List.length_append, List.length_replicate]; omega, fun t H7 c7 ht => ?_⟩
  have e : trim (p ++ List.replicate r.toNat 0) = p := trim_eq rp fun k => by
    rw [coef_append, coef_rep]
    split
    · rfl
    · rw [coef_ge (by omega)]
  rw [e] at ht
  have c37 := ((c4.trans c5).trans c6).trans c7
  have c17 : Ch [b] H H7 := ((c1.trans c2).of0.trans c3).trans0 c37
  walk_at "go"
  refine ⟨t, a, p, p, rfl, ht, c17.sqT hp, by omega, by omega, fun H8 c8 => ?_⟩
  walk_at "go"
  rw [decide_eq_true rfl, if_pos rfl]
  walk_at "go"
  refine w_eqL (.of (c8.at0 (c7.at0 h6))) (.of (c8.at0 (c7.at0 (c6.at0 h5)))) ?_
  rw [decide_eq_true rfl]
  exact q _ (c17.trans0 c8) (B3.mono (c37.trans c8))
end
end My

namespace My
open PySem PySem.Spec PyProof.Rows L2
section
variable {P : Program} {w : World} {K : PySem.W.Frag} {mg : Str → Option Value} {base : Heap}
/-! ### _law_sums -/
abbrev s__law_sums : Stmt := topS 38
theorem sc__law_sums : FnScope ["p", "d"] ["p", "d"] (defScope s__law_sums) := ⟨rfl, rfl, rfl, by decide +kernel, rfl, by decide +kernel, by decide +kernel⟩
def Good (p : List Int) : Prop := IsRow p ∧ p.length ≤ 13 ∧ Fit 140 p
def sp__law_sums (K : PySem.W.Frag) : Sp := fun vs H Q _ => ∃ (a b : Addr) (p d : List Int), vs = [.ref a, .ref b] ∧ SqT K H a (ivs p) ∧ SqT K H b (ivs d) ∧ Good p ∧ Good d ∧ ∀ H', Ch [] H H' → Q (.bl true) H'
theorem sum_eq (p d : List Int) : trim (padd p d) = trim (padd p (pscale 1 d)) := trim_congr fun k => by
  rw [coef_padd, coef_padd, coef_pscale, Int.one_mul]
theorem dif_eq (p d : List Int) : trim (padd p (d.map fun c => c * -1)) = trim (padd p (pscale (-1) d)) := trim_congr fun k => by
  rw [coef_padd, coef_padd, coef_pscale, coef_map (f := fun c => c * -1) (by rfl), Int.mul_comm]
theorem prod_eq {p d l : List Int} (hp : IsRow p) (hd : IsRow d) (h1 : p ≠ []) (h2 : d ≠ []) (hl : l.length = p.length + d.length - 1) (hc : ∀ k, coef l k = coef (pmul p d) k) : l = trim (pmul p d) :=
  (trim_eq (pmul_row hp hd h1 h2 hl hc) fun k => (hc k).symm).symm
theorem c__law_sums (C_row_plus : Cal P w K mg base 2 "row_plus" (sp_row_plus K)) (C_row_minus : Cal P w K mg base 3 "row_minus" (sp_row_minus K)) (C_row_times : Cal P w K mg base 1 "row_times" (sp_row_times K))
    (C__law_plus : Cal P w K mg base 2 "_law_plus" (sp__law_plus K)) (C__law_times : Cal P w K mg base 2 "_law_times" (sp__law_times K)) (C__law_same : Cal P w K mg base 2 "_law_same" (sp__law_same K))
    {f : Addr} {fd : FuncData} (F : DefF K mg "_law_sums" s__law_sums ["p", "d"] f fd) : Cal P w K mg base 4 "_law_sums" (sp__law_sums K) := by
  refine cal_of F sc__law_sums (fun vs H Q E h => by obtain ⟨_, _, _, _, rfl, _⟩ := h; rfl) (fun cdv A outer s H vs Q E hr h => ?_)
  obtain ⟨a, b, p, d, rfl, hp, hd, ⟨rp, lp, fp⟩, ⟨rd, ld, fd'⟩, q⟩ := h
  refine ⟨_, (pss_cons (ps_if (pt_not (pt_val (pe_cc C__law_same hr (by decide) (by rfl) (pa_cons (pe_cc C_row_plus hr (by decide) (by rfl) (pa_cons (pv 0) (pa_cons (pv 1) pa_nil))) (pa_cons (pe_cc C__law_plus hr (by decide) (by rfl) (pa_cons (pv 0) (pa_cons (pv 1) (pa_cons pe_int pa_nil)))) pa_nil))))) (pss_one (ps_ret pe_bl)) pss_nil)
 (pss_cons (ps_if (pt_not (pt_val (pe_cc C__law_same hr (by decide) (by rfl) (pa_cons (pe_cc C_row_minus hr (by decide) (by rfl) (pa_cons (pv 0) (pa_cons (pv 1) pa_nil))) (pa_cons (pe_cc C__law_plus hr (by decide) (by rfl) (pa_cons (pv 0) (pa_cons (pv 1) (pa_cons (pe_un un_neg pe_int) pa_nil)))) pa_nil))))) (pss_one (ps_ret pe_bl)) pss_nil)
 (pss_cons (ps_if (pt_not (pt_val (pe_cc C__law_same hr (by decide) (by rfl) (pa_cons (pe_cc C_row_minus hr (by decide) (by rfl) (pa_cons (pv 1) (pa_cons (pv 0) pa_nil))) (pa_cons (pe_cc C__law_plus hr (by decide) (by rfl) (pa_cons (pv 1) (pa_cons (pv 0) (pa_cons (pe_un un_neg pe_int) pa_nil)))) pa_nil))))) (pss_one (ps_ret pe_bl)) pss_nil)
 (pss_one (ps_ret (pe_cc C__law_same hr (by decide) (by rfl) (pa_cons (pe_cc C_row_times hr (by decide) (by rfl) (pa_cons (pv 0) (pa_cons (pv 1) pa_nil))) (pa_cons (pe_cc C__law_times hr (by decide) (by rfl) (pa_cons (pv 0) (pa_cons (pv 1) pa_nil))) pa_nil)))))))), ?_⟩
  refine w_start (σ := [some _, some _]) rfl ?_
  have lt : ∀ x y : List Int, x.length ≤ 13 → y.length ≤ 13 → (trim (padd x y)).length ≤ 1000 := fun x y h1 h2 => by
    have := trim_len (padd x y)
    rw [padd_len] at this
    omega
  walk_at "go"
  refine ⟨a, b, p, d, rfl, hp, hd, by omega, by omega, fun t1 H1 c1 h1 => ?_⟩
  walk_at "go"
  refine ⟨a, b, p, d, 1, rfl, c1.sqT hp, c1.sqT hd, by omega, by omega, by decide, fun t2 H2 c2 h2 => ?_⟩
  walk_at "go"
  refine ⟨t1, t2, _, _, rfl, c2.sqT h1, h2, lt _ _ lp ld, lt _ _ lp (by rw [pscale, List.length_map]; exact ld), fun H3 c3 => ?_⟩
  walk_at "go"
  refine ite_ndf (sum_eq p d) ?_
  have c13 := (c1.trans c2).trans c3
  walk_at "go"
  refine ⟨a, b, p, d, rfl, c13.sqT hp, c13.sqT hd, by omega, by omega, fun t3 H4 c4 h4 => ?_⟩
  walk_at "go"
  refine ⟨a, b, p, d, -1, rfl, (c13.trans c4).sqT hp, (c13.trans c4).sqT hd, by omega, by omega, by decide, fun t4 H5 c5 h5 => ?_⟩
  walk_at "go"
  refine ⟨t3, t4, _, _, rfl, c5.sqT h4, h5, lt _ _ lp (by rw [List.length_map]; exact ld), lt _ _ lp (by rw [pscale, List.length_map]; exact ld), fun H6 c6 => ?_⟩
  walk_at "go"
  refine ite_ndf (dif_eq p d) ?_
  have c16 := ((c13.trans c4).trans c5).trans c6
  walk_at "go"
  refine ⟨b, a, d, p, rfl, c16.sqT hd, c16.sqT hp, by omega, by omega, fun t5 H7 c7 h7 => ?_⟩
  walk_at "go"
  refine ⟨b, a, d, p, -1, rfl, (c16.trans c7).sqT hd, (c16.trans c7).sqT hp, by omega, by omega, by decide, fun t6 H8 c8 h8 => ?_⟩
  walk_at "go"
  refine ⟨t5, t6, _, _, rfl, c8.sqT h7, h8, lt _ _ ld (by rw [List.length_map]; exact lp), lt _ _ ld (by rw [pscale, List.length_map]; exact lp), fun H9 c9 => ?_⟩
  walk_at "go"
  refine ite_ndf (dif_eq d p) ?_
  have c19 := ((c16.trans c7).trans c8).trans c9
  walk_at "go"
  have last : ∀ (x : Addr) (l : List Int) (H10 : Hp), Ch [] H9 H10 → SqT K H10 x (ivs l) → l = trim (pmul p d) → (∀ H', Ch [] H H' → Q (.bl true) H') → 
    sp__law_times K ([V.ref a, V.ref b] ++ []) H10 (fun y H2 => sp__law_same K ([V.ref x, y] ++ []) H2 Q E0) E0 := fun x l H10 c10 h10 el q => by
    refine ⟨a, b, p, d, 140, rfl, (c19.trans c10).sqT hp, (c19.trans c10).sqT hd, by omega, by omega, fp, fd', by decide, fun t7 H11 c11 h11 => ?_⟩
    have l7 := len_pmul p d
    refine ⟨x, t7, l, _, rfl, c11.sqT h10, h11, by rw [el]; omega, by omega, fun H12 c12 => ?_⟩
    rw [decide_eq_true el]
    exact q _ (((c19.trans c10).trans c11).trans c12)
  refine ⟨a, b, p, d, 140, rfl, c19.sqT hp, c19.sqT hd, by omega, by omega, fp, fd', by decide, fun h0 x H10 c10 h10 => ?_, fun p0 d0 l ll lc x H10 c10 h10 => ?_⟩
  · walk_at "go"
    refine last x [] H10 c10 h10 ?_ q
    rcases h0 with e | e
    · rw [e]
      rfl
    · rw [e]
      exact (trim_eq isRow_nil fun k => by rw [coef_pmul_nil, coef_nil]).symm
  · walk_at "go"
    exact last x l H10 c10 h10 (prod_eq rp rd p0 d0 ll lc) q
/-! ### _law_parts -/
abbrev s__law_parts : Stmt := topS 39
theorem sc__law_parts : FnScope ["p", "a", "slope", "content", "one", "told", "k"] ["p", "a"] (defScope s__law_parts) := ⟨rfl, rfl, rfl, by decide +kernel, rfl, by decide +kernel, by decide +kernel⟩
def sp__law_parts (K : PySem.W.Frag) : Sp := fun vs H Q _ => ∃ (a b : Addr) (p : List Int) (n d : Int), vs = [.ref a, .ref b] ∧ SqT K H a (ivs p) ∧ SqT K H b (ivs [n, d]) ∧ Good p ∧ 0 < d ∧ n.natAbs < 2 ^ 140 ∧ d.natAbs < 2 ^ 140 ∧ ∀ H', Ch [] H H' → Q (.bl true) H'
theorem slope_eq {p : List Int} (rp : IsRow p) : slope p = trim (((List.range p.length).map fun (k : Nat) => ((0 : Int) + (k : Int)) * coef p k).drop 1) := by
  have hd : ∀ (l : List Int) (n j : Nat), coef (l.drop n) j = coef l (n + j) := fun l n j => by
    unfold coef
    simp only [List.getD_eq_getElem?_getD, List.getElem?_drop]
  refine (trim_eq ?_ fun k => ?_).symm
  · rw [isRow_iff]
    by_cases c : p.length ≤ 1
    · left
      rw [slope, show p.length - 1 = 0 by omega]
      rfl
    · right
      have p0 : p ≠ [] := fun e => by
        rw [e] at c
        simp at c
      have h := (isRow_iff.mp rp).resolve_left p0
      rw [slope, List.length_map, List.length_range, coef_range, if_pos (by omega), show p.length - 1 - 1 + 1 = p.length - 1 by omega]
      exact Int.mul_ne_zero (by omega) h
  · rw [hd, slope, coef_range, coef_range]
    by_cases c : k < p.length - 1
    · rw [if_pos c, if_pos (by omega), show 1 + k = k + 1 by omega]
      congr 1
      omega
    · rw [if_neg c, if_neg (by omega)]
theorem c__law_parts (T : Txt mg) (C__law_trim : Cal P w K mg base 1 "_law_trim" (sp__law_trim K)) (C_row_slope : Cal P w K mg base 1 "row_slope" (sp_row_slope K)) (C__law_same : Cal P w K mg base 2 "_law_same" (sp__law_same K))
    (C_row_value : Cal P w K mg base 2 "row_value" (sp_row_value K)) (C__law_value : Cal P w K mg base 2 "_law_value" (sp__law_value K)) (C__law_gcd : Cal P w K mg base 1 "_law_gcd" sp__law_gcd)
    (C_row_primitive : Cal P w K mg base 2 "row_primitive" (sp_row_primitive K)) (C__law_is_int : Cal P w K mg base 1 "_law_is_int" sp__law_is_int)
    {f : Addr} {fd : FuncData} (F : DefF K mg "_law_parts" s__law_parts ["p", "a"] f fd) : Cal P w K mg base 3 "_law_parts" (sp__law_parts K) := by
  refine cal_of F sc__law_parts (fun vs H Q E h => by obtain ⟨_, _, _, _, _, rfl, _⟩ := h; rfl) (fun cdv A outer s H vs Q E hr h => ?_)
  obtain ⟨a, b, p, n, d, rfl, hp, hb, ⟨rp, lp, fp⟩, hd0, hn, hd, q⟩ := h
  refine ⟨_, (pss_cons (ps_set (i := 2) sc__law_parts.nd rfl (Or.inl rfl) (pe_cc C__law_trim hr (by decide) (by rfl) (pa_cons (pe_slice (k_slL (K := K) rfl) (pe_lc (own := [("k", 6)]) (g := gName 6) rfl sc__law_parts.nd (pi_range1 (by rfl) T.z_range (pa_cons (pe_callB (k_len (K := K) rfl) (by rfl) T.z_len PySem.boot_len (pa_cons (pv 0) pa_nil)) pa_nil)) (blkOk_by (own := [("k", 6)]) (N := ["p", "a", "slope", "content", "one", "told", "k"]) (sc := defScope s__law_parts) (by decide +kernel)) (fun _ _ _ _ _ => pg_name (i := 6) sc__law_parts.nd rfl (Or.inl rfl)) (fun _ _ _ _ _ => pts_nil) (fun _ _ _ _ _ => (pe_op op_mulG (pv 6) (pe_ix (k_ixT (K := K) rfl) (pv 0) (pv 6) (fun _ _ => rfl))))) (po_some pe_int) po_none) pa_nil)))
 (pss_cons (ps_if (pt_not (pt_val (pe_cc C__law_same hr (by decide) (by rfl) (pa_cons (pe_cc C_row_slope hr (by decide) (by rfl) (pa_cons (pv 0) pa_nil)) (pa_cons (pv 2) pa_nil))))) (pss_one (ps_ret pe_bl)) pss_nil)
 (pss_cons (ps_if (pt_not (pt_val (pe_cc C__law_same hr (by decide) (by rfl) (pa_cons (pe_cc C_row_value hr (by decide) (by rfl) (pa_cons (pv 0) (pa_cons (pv 1) pa_nil))) (pa_cons (pe_cc C__law_value hr (by decide) (by rfl) (pa_cons (pv 0) (pa_cons (pv 1) pa_nil))) pa_nil))))) (pss_one (ps_ret pe_bl)) pss_nil)
 (pss_cons (ps_set (i := 3) sc__law_parts.nd rfl (Or.inr rfl) pe_int)
 (pss_cons (ps_for PassesOwn.never rfl (k_piT (K := K) rfl (pv 0)) (pg_name (i := 4) sc__law_parts.nd rfl (Or.inl rfl)) (pss_one (ps_set (i := 3) sc__law_parts.nd rfl (Or.inr rfl) (pe_cc C__law_gcd hr (by decide) (by rfl) (pa_cons (pv 3) (pa_cons (pv 4) pa_nil))))))
 (Evl.pss_cut (ps_if (PW.pt (pw_and (pt_cmpR (k_neD (K := K) rfl hr.units) (pv 0) (pe_tup pa_nil) (nomark _)) (pw_and1 (pt_cmpR op_lt (pe_ix (k_ixT (K := K) rfl) (pv 0) (pe_un un_neg pe_int) (fun _ _ => rfl)) pe_int (nomark _))))) (pss_one (ps_set (i := 3) sc__law_parts.nd rfl (Or.inr rfl) (pe_un un_neg (pv 3)))) pss_nil)
 (pss_cons (ps_set (i := 5) sc__law_parts.nd rfl (Or.inl rfl) (pe_cc C_row_primitive hr (by decide) (by rfl) (pa_cons (pv 0) pa_nil)))
 (pss_cons (ps_if (PW.pt (pw_or (pt_not (pt_val (pe_callB (k_isi (K := K) rfl) (by rfl) T.z_isinstance (by decide +kernel) (pa_cons (pv 5) (pa_cons (pe_bltn (by rfl) T.z_tuple (by decide +kernel) (v := .ty "tuple") rfl) pa_nil))))) (pw_or1 (pt_cmpR op_ne (pe_callB (k_len (K := K) rfl) (by rfl) T.z_len PySem.boot_len (pa_cons (pv 5) pa_nil)) pe_int (nomark _))))) (pss_one (ps_ret pe_bl)) pss_nil)
 (pss_cons (ps_if (PW.pt (pw_or (pt_not (pt_val (pe_cc C__law_is_int hr (by decide) (by rfl) (pa_cons (pe_ix (k_ixT (K := K) rfl) (pv 5) pe_int (fun _ _ => rfl)) pa_nil)))) (pw_or1 (pt_cmpR op_ne (pe_ix (k_ixT (K := K) rfl) (pv 5) pe_int (fun _ _ => rfl)) (pv 3) (nomark _))))) (pss_one (ps_ret pe_bl)) pss_nil)
 (pss_one (ps_ret (pe_cc C__law_same hr (by decide) (by rfl) (pa_cons (pe_ix (k_ixT (K := K) rfl) (pv 5) pe_int (fun _ _ => rfl)) (pa_cons (pe_callTy (k_tuple (K := K) rfl) (by rfl) T.z_tuple (by decide +kernel) (pa_cons (pe_lc (own := [("one", 4)]) (g := gName 4) rfl sc__law_parts.nd (k_piT (K := K) rfl (pv 0)) (blkOk_by (own := [("one", 4)]) (N := ["p", "a", "slope", "content", "one", "told", "k"]) (sc := defScope s__law_parts) (by decide +kernel)) (fun _ _ _ _ _ => pg_name (i := 4) sc__law_parts.nd rfl (Or.inl rfl)) (fun _ _ _ _ _ => pts_nil) (fun _ _ _ _ _ => (pe_op op_fdivG (pv 4) (pv 3)))) pa_nil)) pa_nil)))))))))))))), ?_⟩
  refine w_start (σ := [some _, some _, none, none, none, none, none]) rfl ?_
  walk_at "go"
  refine w_lenTi hp ?_
  walk_at "go"
  refine w_iR1r (by omega) (by omega) ?_
  refine lc_R (n := p.length) (fun k : Nat => .int (((0 : Int) + (k : Int)) * coef p k)) rfl (by omega) (fun k H1 hk c S kk => ?_) (fun D H1 nD c1 hD => ?_)
  · walk_at "go"
    refine w_ixTi (k := k) (c.sqT hp) (by omega) (get_coef hk) ?_
    walk_at "go"
    refine w_mull (by omega) ?_
    exact kk _ .refl
  walk_at "go"
  have c1f : ∀ xs : List V, cutV xs (some 1) none = xs.drop 1 := fun xs => cut_from (xs := xs) (k := 1)
  refine w_slL (.of hD) fun l2 H2 n2 c2 h2 => ?_
  have h2 : H2 l2 = some (.lst (ivs (((List.range p.length).map fun (k : Nat) => ((0 : Int) + (k : Int)) * coef p k).drop 1))) := by
    rw [h2, c1f, ivs, List.map_drop, List.map_map]
    rfl
  walk_at "go"
  refine ⟨l2, _, rfl, h2, by rw [List.length_drop, List.length_map, List.length_range]; omega, fun t3 H3 c3 h3 => ?_⟩
  rw [← slope_eq rp] at h3
  have c13 := (c1.trans c2).trans c3
  have lsl : (slope p).length ≤ 1000 := by
    rw [slope, List.length_map, List.length_range]
    omega
  walk_at "go"
  refine ⟨a, p, rfl, c13.sqT hp, by omega, fun t4 H4 c4 h4 => ?_⟩
  walk_at "go"
  refine ⟨t4, t3, _, _, rfl, h4, c4.sqT h3, lsl, lsl, fun H5 c5 => ?_⟩
  walk_at "go"
  refine ite_ndf rfl ?_
  have c15 := (c13.trans c4).trans c5
  walk_at "go"
  have lm : 140 * p.length + 1 ≤ 9000 := by omega
  refine ⟨a, b, p, n, d, 140, rfl, c15.sqT hp, c15.sqT hb, by omega, hn, hd, hd0, fp, lm, by decide, fun t6 H6 c6 h6 => ?_⟩
  walk_at "go"
  refine ⟨a, b, p, n, d, 140, rfl, (c15.trans c6).sqT hp, (c15.trans c6).sqT hb, by omega, hn, hd, hd0, fp, lm, by decide, fun t7 H7 c7 h7 => ?_⟩
  walk_at "go"
  refine ⟨t6, t7, _, _, rfl, c7.sqT h6, h7, (show 2 ≤ 1000 by decide), (show 2 ≤ 1000 by decide), fun H8 c8 => ?_⟩
  walk_at "go"
  refine ite_ndf (value_eq hd0 p) ?_
  have c18 := ((c15.trans c6).trans c7).trans c8
  walk_at "go"
  refine w_iTr (c18.sqT hp) ?_
  refine for_Ti (ns := p) (fun i σ H' => H' = H8 ∧ ∃ z, σ = [some (.ref a), some (.ref b), some (.ref t3), some (.int (gcdL (p.take i))), z, none, none]) ⟨rfl, none, rfl⟩ (fun i σ H' _ h => by rw [h.1]; exact c18.sqT hp) ?_ ?_
  · rintro i x σ H' hx ⟨rfl, z, rfl⟩
    walk_at "go"
    refine ⟨_, x, 140, rfl, fp x (List.mem_of_getElem? hx), by decide, ?_⟩
    refine ⟨rfl, some (.int x), ?_⟩
    have e : gcdL (p.take (i + 1)) = Nat.gcd (gcdL (p.take i)) x.natAbs := by
      unfold gcdL
      rw [List.take_add_one, hx, List.foldl_append]
      rfl
    rw [e, Int.natAbs_natCast]
    rfl
  rintro σ H' ⟨rfl, z, rfl⟩
  rw [List.take_length]
  walk_at "go"
  have cb : (content p).natAbs < 2 ^ 140 ∧ (p ≠ [] → content p ≠ 0) := by
    by_cases p0 : p = []
    · subst p0
      exact ⟨by decide, fun h => (h rfl).elim⟩
    · obtain ⟨g0, gb⟩ := gcdL_pos rp p0 fp
      unfold content
      split <;> exact ⟨by omega, fun _ => by omega⟩
  refine w_cut (M := fun σ' H1 => Ch [] H' H1 ∧ σ' = [some (.ref a), some (.ref b), some (.ref t3), some (.int (content p)), z, none, none]) ?_ ?_
  · walk_at "go"
    refine w_newT (Nat.zero_le _) fun e H9 n9 c9 h9 => ?_
    walk_at "go"
    refine w_neT (r := []) ((c18.trans c9).sqT hp) (.of h9) ?_
    walk_at "go"
    refine ite_nd (fun h0 => ?_) (fun h0 => ?_)
    · walk_at "go"
      refine w_ixT ((c18.trans c9).sqT hp) (last_at h0) ?_
      walk_at "go"
      refine ite_d (fun h1 => ?_) (fun h1 => ?_)
      · walk_at "go"
        refine ⟨c9, ?_⟩
        rw [content, if_pos h1]
        rfl
      · walk_at "go"
        refine ⟨c9, ?_⟩
        rw [content, if_neg h1]
    · subst h0
      walk_at "go"
      exact ⟨c9, rfl⟩
  rintro σ' H9 ⟨c9, rfl⟩
  have c19 := c18.trans c9
  walk_at "go"
  refine ⟨a, p, 140, rfl, c19.sqT hp, rp, by omega, fp, by decide, fun t u H10 c10 ht hu => ?_⟩
  have c110 := c19.trans c10
  walk_at "go"
  refine w_isiTT ht ?_
  walk_at "go"
  rw [if_neg (by decide)]
  walk_at "go"
  refine w_lenT ht ?_
  walk_at "go"
  refine ite_ndf rfl ?_
  walk_at "go"
  refine ⟨_, rfl, ?_⟩
  walk_at "go"
  rw [if_neg (by decide)]
  walk_at "go"
  refine ite_ndf rfl ?_
  walk_at "go"
  refine w_iTr (c110.sqT hp) ?_
  refine lc_Ti (fun x => .int (x.fdiv (content p))) rfl (c110.sqT hp) (by omega) (fun x H1 hx c S k => ?_) (fun D H11 nD c11 hD => ?_)
  · walk_at "go"
    refine w_I (div_ok (cb.2 (List.ne_nil_of_mem hx)) cb.1 (by decide)) ?_
    exact k _ .refl
  walk_at "go"
  refine w_tupleL (.of hD) fun v H12 n12 c12 hv => ?_
  walk_at "go"
  refine ⟨u, v, _, _, rfl, (c11.trans c12).sqT hu, .of (xs := ivs (p.map fun c => c.fdiv (content p))) (by rw [hv, ivs, List.map_map]; rfl), by rw [List.length_map]; omega, by rw [List.length_map]; omega, fun H13 c13' => ?_⟩
  rw [decide_eq_true rfl]
  exact q _ (((c110.trans c11).trans c12).trans c13')
end
end My

namespace My
open PySem PySem.Spec PyProof.Rows L2
section
variable {X : Cx} {K : PySem.W.Frag}
theorem pss_under {A : Prop} {b : List Stmt} {t : TS} (h : A → PSs X b t) : PSs X b (fun D σ H => A ∧ t D σ H) := ⟨fun pins s σ H D I q => (h q.1).run pins s σ H D I q.2⟩
theorem zc_at {cls : Value} {d : Option Addr} {C : Addr} {oe : Obj} (h : cls = .ref C ∧ d = none) (hz : Zc cls d oe) : Zc (.ref C) none oe := by
  obtain ⟨rfl, rfl⟩ := h
  exact hz
theorem k_isE {a D : Addr} {oe : Obj} {pn : List (Addr × Obj)} (h : X.K = K) (C : ExcC K D) (hz : Zc (.ref D) none oe) (hf : ∃ vs, oe.data = .fields vs) : CallR (X.suite a ((a, oe) :: pn)) (.builtin "isinstance") (rIsE K D a) := by
  subst h
  exact call_isE C hz hf
theorem w_callS {sp : Sp} {E : L2.St → XK} {t : TA} {σ : L2.St} {H : Hp} {Q : VK} (h : t σ H fun vs H1 => sp vs H1 Q (E σ)) : tCallS sp E t σ H Q := h
theorem w_isE {D a : Addr} {c : V} {cv : Value} {b : Bool} {H : Hp} {Q : VK} (hc : ∀ u, RelV c u → u = cv) (h : PySem.W.kitOne K (.ref D) cv = some b) (q : Q (.bl b) H) : rIsE K D a [.ref a, c] H Q := ⟨c, cv, b, rfl, hc, h, q⟩
end
section
variable {P : Program} {w : World} {K : PySem.W.Frag} {mg : Str → Option Value} {base : Heap}
/-! ### _law_division -/
abbrev s__law_division : Stmt := topS 40
theorem sc__law_division : FnScope ["p", "d", "told", "multiplier", "k"] ["p", "d"] (defScope s__law_division) := ⟨rfl, rfl, rfl, by decide +kernel, rfl, by decide +kernel, by decide +kernel⟩
def sp__law_division (K : PySem.W.Frag) : Sp := fun vs H Q _ => ∃ (a b : Addr) (p d : List Int), vs = [.ref a, .ref b] ∧ SqT K H a (ivs p) ∧ SqT K H b (ivs d) ∧ Good p ∧ Good d ∧ d ≠ [] ∧ ∀ H', Ch [] H H' → Q (.bl true) H'
theorem c__law_division (T : Txt mg) {C : Addr} (C_divide_row : Cal P w K mg base 2 "divide_row" (sp_divide_row K C)) (C__law_is_int : Cal P w K mg base 1 "_law_is_int" sp__law_is_int) (C__law_is_row : Cal P w K mg base 2 "_law_is_row" (sp__law_is_row K))
    (C__law_plus : Cal P w K mg base 2 "_law_plus" (sp__law_plus K)) (C__law_times : Cal P w K mg base 2 "_law_times" (sp__law_times K))
    {f : Addr} {fd : FuncData} (F : DefF K mg "_law_division" s__law_division ["p", "d"] f fd) : Cal P w K mg base 3 "_law_division" (sp__law_division K) := by
  refine cal_of F sc__law_division (fun vs H Q E h => by obtain ⟨_, _, _, _, rfl, _⟩ := h; rfl) (fun cdv A outer s H vs Q E hr h => ?_)
  obtain ⟨a, b, p, d, rfl, hp, hb, ⟨rp, lp, fp⟩, ⟨rd, ld, fd'⟩, d0, q⟩ := h
  refine ⟨_, (pss_cons (ps_set (i := 2) sc__law_division.nd rfl (Or.inl rfl) (pe_cc C_divide_row hr (by decide) (by rfl) (pa_cons (pv 0) (pa_cons (pv 1) pa_nil))))
 (pss_cons (ps_if (PW.pt (pw_or (pt_not (pt_val (pe_callB (k_isi (K := K) rfl) (by rfl) T.z_isinstance (by decide +kernel) (pa_cons (pv 2) (pa_cons (pe_bltn (by rfl) T.z_tuple (by decide +kernel) (v := .ty "tuple") rfl) pa_nil))))) (pw_or1 (pt_cmpR op_ne (pe_callB (k_len (K := K) rfl) (by rfl) T.z_len PySem.boot_len (pa_cons (pv 2) pa_nil)) pe_int (nomark _))))) (pss_one (ps_ret pe_bl)) pss_nil)
 (pss_cons (ps_set (i := 3) sc__law_division.nd rfl (Or.inl rfl) pe_int)
 (pss_cons (ps_for PassesOwn.never rfl (pi_range1 (by rfl) T.z_range (pa_cons (pe_op op_add (pe_op op_sub (pe_callB (k_len (K := K) rfl) (by rfl) T.z_len PySem.boot_len (pa_cons (pv 0) pa_nil)) (pe_callB (k_len (K := K) rfl) (by rfl) T.z_len PySem.boot_len (pa_cons (pv 1) pa_nil))) pe_int) pa_nil)) (pg_name (i := 4) sc__law_division.nd rfl (Or.inl rfl)) (pss_one (ps_set (i := 3) sc__law_division.nd rfl (Or.inl rfl) (pe_op op_mulG (pv 3) (pe_callB cb_abs (by rfl) T.z_abs (by decide +kernel) (pa_cons (pe_ix (k_ixT (K := K) rfl) (pv 1) (pe_un un_neg pe_int) (fun _ _ => rfl)) pa_nil))))))
 (pss_cons (ps_if (PW.pt (pw_or (pt_not (pt_val (pe_cc C__law_is_int hr (by decide) (by rfl) (pa_cons (pe_ix (k_ixT (K := K) rfl) (pv 2) pe_int (fun _ _ => rfl)) pa_nil)))) (pw_or1 (pt_cmpR op_ne (pe_ix (k_ixT (K := K) rfl) (pv 2) pe_int (fun _ _ => rfl)) (pv 3) (nomark _))))) (pss_one (ps_ret pe_bl)) pss_nil)
 (pss_cons (ps_if (PW.pt (pw_or (pt_not (pt_val (pe_cc C__law_is_row hr (by decide) (by rfl) (pa_cons (pe_ix (k_ixT (K := K) rfl) (pv 2) pe_int (fun _ _ => rfl)) pa_nil)))) (pw_or (pt_not (pt_val (pe_cc C__law_is_row hr (by decide) (by rfl) (pa_cons (pe_ix (k_ixT (K := K) rfl) (pv 2) pe_int (fun _ _ => rfl)) pa_nil)))) (pw_or1 (pt_cmpR op_ge (pe_callB (k_len (K := K) rfl) (by rfl) T.z_len PySem.boot_len (pa_cons (pe_ix (k_ixT (K := K) rfl) (pv 2) pe_int (fun _ _ => rfl)) pa_nil)) (pe_callB (k_len (K := K) rfl) (by rfl) T.z_len PySem.boot_len (pa_cons (pv 1) pa_nil)) (nomark _)))))) (pss_one (ps_ret pe_bl)) pss_nil)
 (pss_one (ps_ret (pe_cmpR (k_eqD (K := K) rfl hr.units) (pe_cc C__law_times hr (by decide) (by rfl) (pa_cons (pe_tup (pa_cons (pv 3) pa_nil)) (pa_cons (pv 0) pa_nil))) (pe_cc C__law_plus hr (by decide) (by rfl) (pa_cons (pe_cc C__law_times hr (by decide) (by rfl) (pa_cons (pe_ix (k_ixT (K := K) rfl) (pv 2) pe_int (fun _ _ => rfl)) (pa_cons (pv 1) pa_nil))) (pa_cons (pe_ix (k_ixT (K := K) rfl) (pv 2) pe_int (fun _ _ => rfl)) (pa_cons pe_int pa_nil)))) (nomark _)))))))))), ?_⟩
  refine w_start (σ := [some _, some _, none, none, none]) rfl ?_
  have ld0 := List.length_pos_iff.mpr d0
  walk_at "go"
  refine ⟨a, b, p, d, 140, rfl, hp, hb, rp, rd, by omega, by omega, fp, fd', by decide, fun e => absurd e d0, fun _ m qq r t u v H1 Z lq fq c1 ht hu hv => ?_⟩
  walk_at "go"
  refine w_isiTT ht ?_
  walk_at "go"
  rw [if_neg (by decide)]
  walk_at "go"
  refine w_lenT ht ?_
  walk_at "go"
  refine ite_ndf rfl ?_
  walk_at "go"
  refine w_lenTi (c1.sqT hp) ?_
  walk_at "go"
  refine w_lenTi (c1.sqT hb) ?_
  walk_at "go"
  refine w_iR1r (by omega) (by omega) ?_
  generalize hlast : coef d (d.length - 1) = last
  have hlf : last.natAbs < 2 ^ 140 := by
    rw [← hlast]
    exact fd' _ (coef_mem (by omega))
  have la : ((last.natAbs : Int)).natAbs < 2 ^ 140 := by
    rw [Int.natAbs_natCast]
    exact hlf
  have hn : ((p.length : Int) - d.length + 1).toNat = p.length + 1 - d.length := by omega
  rw [hn]
  refine for_R (n := p.length + 1 - d.length) (fun i σ H' => H' = H1 ∧ ∃ z, σ = [some (.ref a), some (.ref b), some (.ref t), some (.int ((last.natAbs : Int) ^ i)), z]) ⟨rfl, none, rfl⟩ ?_ ?_
  · rintro i σ H' hi ⟨rfl, z, rfl⟩
    have c1b := c1.sqT hb
    walk_at "go"
    refine w_ixT c1b (by rw [last_at d0, hlast]) ?_
    walk_at "go"
    refine w_I (mul_ok (abs_pow_lt la) la (by omega)) ?_
    exact ⟨rfl, _, by rw [Int.pow_succ]; rfl⟩
  rintro σ H' ⟨rfl, z, rfl⟩
  walk_at "go"
  refine ⟨_, rfl, ?_⟩
  walk_at "go"
  rw [if_neg (by decide)]
  walk_at "go"
  have em : m = (last.natAbs : Int) ^ (p.length + 1 - d.length) := by rw [Z.pw, hlast]
  refine ite_ndf em ?_
  rw [← em]
  have mf : m.natAbs < 2 ^ 2000 := by
    rw [em]
    exact abs_mono (abs_pow_lt la) (by omega)
  obtain ⟨zf, fq, zl⟩ := fq
  have lq' : qq.length ≤ 13 := by omega
  have lr' : r.length ≤ 13 := by have := Z.len; omega
  walk_at "go"
  refine ⟨u, qq, rfl, hu, Z.rq, by omega, fun H2 c2 => ?_⟩
  walk_at "go"
  rw [if_neg (by decide)]
  have ht2 := c2.sqT ht
  walk_at "go"
  refine ⟨v, r, rfl, c2.sqT hv, Z.rr, by omega, fun H3 c3 => ?_⟩
  walk_at "go"
  rw [if_neg (by decide)]
  have ht3 := c3.sqT ht2
  have c13 := (c1.trans c2).trans c3
  have hu3 := (c2.trans c3).sqT hu
  have hv3 := (c2.trans c3).sqT hv
  walk_at "go"
  refine w_lenTi hv3 ?_
  walk_at "go"
  refine w_lenTi (c13.sqT hb) ?_
  walk_at "go"
  refine ite_df (by have := Z.len; omega) ?_
  walk_at "go"
  refine w_newT (show 1 ≤ sizeLine by decide) fun e H4 n4 c4 h4 => ?_
  walk_at "go"
  have c14 := c13.trans c4
  refine ⟨e, a, [m], p, 2000, rfl, .of h4, c14.sqT hp, (show 1 ≤ 1000 by decide), by omega, fun x hx => ?_, fp.mono (by decide), by decide, fun t5 H5 c5 h5 => ?_⟩
  · rw [List.mem_singleton.mp hx]
    exact mf
  have ht5 := (c4.trans c5).sqT ht3
  have c15 := c14.trans c5
  walk_at "go"
  refine ⟨u, b, qq, d, max zf 140, rfl, (c4.trans c5).sqT hu3, c15.sqT hb, by omega, by omega, fq.mono (by omega), fd'.mono (by omega), by omega, fun t6 H6 c6 h6 => ?_⟩
  have ht6 := c6.sqT ht5
  walk_at "go"
  have l6 := trim_len (pmul qq d)
  have l7 := len_pmul qq d
  refine ⟨t6, v, _, r, 1, rfl, h6, ((c4.trans c5).trans c6).sqT hv3, by omega, by omega, by decide, fun t7 H7 c7 h7 => ?_⟩
  walk_at "go"
  refine w_eqT ((c6.trans c7).sqT h5) h7 ?_
  rw [decide_eq_true]
  · exact q _ ((c15.trans c6).trans c7)
  · exact trim_congr fun k => by
      rw [coef_pmul_one, coef_padd, coef_trim, coef_pscale, Z.eq, Int.one_mul]
/-! ### _law_refused -/
abbrev s__law_refused : Stmt := topS 41
theorem sc__law_refused : FnScope ["p", "raised"] ["p"] (defScope s__law_refused) := ⟨rfl, rfl, rfl, by decide +kernel, rfl, by decide +kernel, by decide +kernel⟩
def sp__law_refused (K : PySem.W.Frag) : Sp := fun vs H Q _ => ∃ (a : Addr) (p : List Int), vs = [.ref a] ∧ SqT K H a (ivs p) ∧ Good p ∧ ∀ H', Ch [] H H' → Q (.bl true) H'
theorem c__law_refused (T : Txt mg) (z_ValueError : mg "ValueError" = none) {A_DivisionByZero A_ZeroPolynomial A_CellspireError : Addr} (C_divide_row : Cal P w K mg base 2 "divide_row" (sp_divide_row K A_DivisionByZero))
    (X_DivisionByZero : ExcF K mg "DivisionByZero" A_DivisionByZero) (X_ZeroPolynomial : ExcF K mg "ZeroPolynomial" A_ZeroPolynomial) (X_CellspireError : ExcF K mg "CellspireError" A_CellspireError) (XC_DivisionByZero : ExcC K A_DivisionByZero)
    (e1 : PySem.W.exmOne K (.ref A_DivisionByZero) (.ref A_DivisionByZero) = some true) (e2 : PySem.W.kitOne K (.ref A_DivisionByZero) (.ref A_ZeroPolynomial) = some false) (e3 : PySem.W.kitOne K (.ref A_DivisionByZero) (.ref A_CellspireError) = some true) (e4 : PySem.W.kitOne K (.ref A_DivisionByZero) (.type "ValueError") = some true)
    {f : Addr} {fd : FuncData} (F : DefF K mg "_law_refused" s__law_refused ["p"] f fd) : Cal P w K mg base 3 "_law_refused" (sp__law_refused K) := by
  refine cal_of F sc__law_refused (fun vs H Q E h => by obtain ⟨_, _, rfl, _⟩ := h; rfl) (fun cdv A outer s H vs Q E hr h => ?_)
  obtain ⟨a, p, rfl, hp, ⟨rp, lp, fp⟩, q⟩ := h
  refine ⟨_, (pss_cons (ps_try_as (i := 1) (Wout := fun _ _ _ _ => False) rfl rfl sc__law_refused.nd rfl rfl ⟨rfl, by decide, Or.inl X_DivisionByZero.gl⟩ takes0 (fun W pn xe tk _ => (pss_one (ps_expr (pe_ccS C_divide_row hr (by decide) (by rfl) tk (pa_cons (pv 0) (pa_cons (pe_tup pa_nil) pa_nil))))))
  (fun a oe cls d pn hz hf => pss_under fun hcls => (pss_cons (ps_if (pt_val (pe_callB (k_isE (K := K) rfl XC_DivisionByZero (zc_at hcls hz) hf) (by rfl) T.z_isinstance (by decide +kernel) (pa_cons (pv 1) (pa_cons (pe_glob (v := .ref A_ZeroPolynomial) (by rfl) X_ZeroPolynomial.gl rfl) pa_nil)))) (pss_one (ps_ret pe_bl)) pss_nil)
 (pss_one (ps_ret (pe_and (pe_callB (k_isE (K := K) rfl XC_DivisionByZero (zc_at hcls hz) hf) (by rfl) T.z_isinstance (by decide +kernel) (pa_cons (pv 1) (pa_cons (pe_glob (v := .ref A_CellspireError) (by rfl) X_CellspireError.gl rfl) pa_nil))) (pe_one (pe_callB (k_isE (K := K) rfl XC_DivisionByZero (zc_at hcls hz) hf) (by rfl) T.z_isinstance (by decide +kernel) (pa_cons (pv 1) (pa_cons (pe_bltn (by rfl) z_ValueError (by decide +kernel) (v := .ty "ValueError") rfl) pa_nil))))))))))
 (pss_one (ps_ret pe_bl))), ?_⟩
  refine w_start (σ := [some _, none]) rfl ?_
  walk_at "go"
  refine w_callS ?_
  walk_at "go"
  refine w_newT (Nat.zero_le _) fun e H1 n1 c1 h1 => ?_
  walk_at "go"
  refine ⟨a, e, p, [], 140, rfl, c1.sqT hp, .of h1, rp, isRow_nil, by omega, by decide, fp, fun x hx => by simp at hx, by decide, fun _ => ⟨true, e1, fun _ x nx => ⟨⟨rfl, rfl⟩, ?_⟩, fun h => nomatch h⟩, fun h => absurd rfl h⟩
  walk_at "go"
  refine w_isE (cv := .ref A_ZeroPolynomial) (fun u r => r) e2 ?_
  walk_at "go"
  rw [if_neg (by decide)]
  walk_at "go"
  refine w_isE (cv := .ref A_CellspireError) (fun u r => r) e3 ?_
  walk_at "go"
  rw [if_pos rfl]
  walk_at "go"
  refine w_isE (cv := .type "ValueError") (fun u r => r) e4 ?_
  exact q _ c1
/-! ### law -/
abbrev s_law : Stmt := topS 42
theorem sc_law : FnScope ["script", "box", "p", "d", "a"] ["script"] (defScope s_law) := ⟨rfl, rfl, rfl, by decide +kernel, rfl, by decide +kernel, by decide +kernel⟩
def sp_law (K : PySem.W.Frag) : Sp := fun vs H Q _ => ∃ (a : Addr) (ns : List Int), vs = [.ref a] ∧ SqL K H a (ivs ns) ∧ ns.length ≤ 63 ∧ ∀ H', Q (.bl true) H'
theorem c_law (C__law_box : Cal P w K mg base 1 "_law_box" (sp__law_box K)) (C__law_inputs : Cal P w K mg base 5 "_law_inputs" (sp__law_inputs K)) (C__law_made : Cal P w K mg base 3 "_law_made" (sp__law_made K))
    (C__law_sums : Cal P w K mg base 4 "_law_sums" (sp__law_sums K)) (C__law_parts : Cal P w K mg base 3 "_law_parts" (sp__law_parts K)) (C__law_division : Cal P w K mg base 3 "_law_division" (sp__law_division K)) (C__law_refused : Cal P w K mg base 3 "_law_refused" (sp__law_refused K))
    {f : Addr} {fd : FuncData} (F : DefF K mg "law" s_law ["script"] f fd) : FnOk P w K mg base (L2.CX P w) 6 f fd ["script"] (sp_law K) := by
  refine F.fn.okX sc_law (fun vs H Q E h => by obtain ⟨_, _, rfl, _⟩ := h; rfl) (fun cdv A outer s H vs Q E hr h => ?_)
  obtain ⟨a, ns, rfl, hs, hl, q⟩ := h
  refine ⟨_, (pss_cons (ps_set (i := 1) sc_law.nd rfl (Or.inl rfl) (pe_cc C__law_box hr (by decide) (by rfl) (pa_cons (pv 0) pa_nil)))
 (pss_cons (ps_asg (pe_cc C__law_inputs hr (by decide) (by rfl) (pa_cons (pv 1) pa_nil)) (k_gtup (K := K) rfl rfl (pgs_cons (pg_name (i := 2) sc_law.nd rfl (Or.inl rfl)) (pgs_cons (pg_name (i := 3) sc_law.nd rfl (Or.inl rfl)) (pgs_cons (pg_name (i := 4) sc_law.nd rfl (Or.inl rfl)) pgs_nil)))))
 (pss_cons (ps_if (PW.pt (pw_or (pt_not (pt_val (pe_cc C__law_made hr (by decide) (by rfl) (pa_cons (pv 1) (pa_cons (pv 2) pa_nil))))) (pw_or1 (pt_not (pt_val (pe_cc C__law_sums hr (by decide) (by rfl) (pa_cons (pv 2) (pa_cons (pv 3) pa_nil)))))))) (pss_one (ps_ret pe_bl)) pss_nil)
 (pss_cons (ps_if (PW.pt (pw_or (pt_not (pt_val (pe_cc C__law_parts hr (by decide) (by rfl) (pa_cons (pv 2) (pa_cons (pv 4) pa_nil))))) (pw_or1 (pt_not (pt_val (pe_cc C__law_parts hr (by decide) (by rfl) (pa_cons (pv 3) (pa_cons (pv 4) pa_nil)))))))) (pss_one (ps_ret pe_bl)) pss_nil)
 (pss_cons (ps_if (PW.pt (pw_and (pt_cmpR (k_neD (K := K) rfl hr.units) (pv 3) (pe_tup pa_nil) (nomark _)) (pw_and1 (pt_not (pt_val (pe_cc C__law_division hr (by decide) (by rfl) (pa_cons (pv 2) (pa_cons (pv 3) pa_nil)))))))) (pss_one (ps_ret pe_bl)) pss_nil)
 (pss_cons (ps_if (PW.pt (pw_and (pt_cmpR (k_neD (K := K) rfl hr.units) (pv 2) (pe_tup pa_nil) (nomark _)) (pw_and1 (pt_not (pt_val (pe_cc C__law_division hr (by decide) (by rfl) (pa_cons (pv 3) (pa_cons (pv 2) pa_nil)))))))) (pss_one (ps_ret pe_bl)) pss_nil)
 (pss_one (ps_ret (pe_and (pe_cc C__law_refused hr (by decide) (by rfl) (pa_cons (pv 2) pa_nil)) (pe_one (pe_cc C__law_refused hr (by decide) (by rfl) (pa_cons (pe_tup pa_nil) pa_nil)))))))))))), ?_⟩
  refine w_start (σ := [some _, none, none, none, none]) rfl ?_
  walk_at "go"
  refine ⟨a, ns, rfl, hs, hl, fun b c H1 c1 B1 => ?_⟩
  walk_at "go"
  refine ⟨b, c, rfl, B1, fun o u v t p d n m H2 I2 c2 B2 ho => ?_⟩
  walk_at "go"
  refine w_gtup ho rfl ?_
  walk_at "go"
  refine ⟨b, c, u, p, rfl, B2, I2.u, I2.rp, by have := I2.lp; omega, fun H3 c3 B3 => ?_⟩
  have I3 := I2.mono c3
  have gp : Good p := ⟨I2.rp, I2.lp, I2.fp⟩
  have gd : Good d := ⟨I2.rd, I2.ld, I2.fd⟩
  walk_at "go"
  rw [if_neg (by decide)]
  walk_at "go"
  refine ⟨u, v, p, d, rfl, I3.u, I3.v, gp, gd, fun H4 c4 => ?_⟩
  have I4 := I3.mono c4
  walk_at "go"
  rw [if_neg (by decide)]
  walk_at "go"
  refine ⟨u, t, p, n, m, rfl, I4.u, I4.t, gp, I2.m0, I2.fn, I2.fm, fun H5 c5 => ?_⟩
  have I5 := I4.mono c5
  walk_at "go"
  rw [if_neg (by decide)]
  walk_at "go"
  refine ⟨v, t, d, n, m, rfl, I5.v, I5.t, gd, I2.m0, I2.fn, I2.fm, fun H6 c6 => ?_⟩
  have I6 := I5.mono c6
  walk_at "go"
  rw [if_neg (by decide)]
  walk_at "go"
  refine w_newT (Nat.zero_le _) fun e0 H7 n7 c7 h7 => ?_
  have I7 := I6.mono c7
  walk_at "go"
  refine w_neT (r := []) I7.v (.of h7) ?_
  walk_at "go"
  refine ite_nd (fun d0 => ?_) (fun d0 => ?_)
  · walk_at "go"
    refine ⟨u, v, p, d, rfl, I7.u, I7.v, gp, gd, d0, fun H8 c8 => ?_⟩
    have IY := I7.mono c8
    walk_at "go"
    rw [if_neg (by decide)]
    walk_at "go"
    refine w_newT (Nat.zero_le _) fun e1 H8 n8 c8 h8 => ?_
    have I8 := IY.mono c8
    walk_at "go"
    refine w_neT (r := []) I8.u (.of h8) ?_
    walk_at "go"
    refine ite_nd (fun p0 => ?_) (fun p0 => ?_)
    · walk_at "go"
      refine ⟨v, u, d, p, rfl, I8.v, I8.u, gd, gp, p0, fun H9 c9 => ?_⟩
      have IX := I8.mono c9
      walk_at "go"
      rw [if_neg (by decide)]
      walk_at "go"
      refine ⟨u, p, rfl, IX.u, gp, fun H9 c9 => ?_⟩
      walk_at "go"
      rw [if_pos rfl]
      walk_at "go"
      refine w_newT (Nat.zero_le _) fun e2 H10 n10 c10 h10 => ?_
      walk_at "go"
      exact ⟨e2, [], rfl, .of h10, ⟨isRow_nil, by decide, fun x hx => by simp at hx⟩, fun H11 c11 => q _⟩
    · rw [if_neg (by decide)]
      have IX := I8
      walk_at "go"
      refine ⟨u, p, rfl, IX.u, gp, fun H9 c9 => ?_⟩
      walk_at "go"
      rw [if_pos rfl]
      walk_at "go"
      refine w_newT (Nat.zero_le _) fun e2 H10 n10 c10 h10 => ?_
      walk_at "go"
      exact ⟨e2, [], rfl, .of h10, ⟨isRow_nil, by decide, fun x hx => by simp at hx⟩, fun H11 c11 => q _⟩
  · rw [if_neg (by decide)]
    have IY := I7
    walk_at "go"
    refine w_newT (Nat.zero_le _) fun e1 H8 n8 c8 h8 => ?_
    have I8 := IY.mono c8
    walk_at "go"
    refine w_neT (r := []) I8.u (.of h8) ?_
    walk_at "go"
    refine ite_nd (fun p0 => ?_) (fun p0 => ?_)
    · walk_at "go"
      refine ⟨v, u, d, p, rfl, I8.v, I8.u, gd, gp, p0, fun H9 c9 => ?_⟩
      have IX := I8.mono c9
      walk_at "go"
      rw [if_neg (by decide)]
      walk_at "go"
      refine ⟨u, p, rfl, IX.u, gp, fun H9 c9 => ?_⟩
      walk_at "go"
      rw [if_pos rfl]
      walk_at "go"
      refine w_newT (Nat.zero_le _) fun e2 H10 n10 c10 h10 => ?_
      walk_at "go"
      exact ⟨e2, [], rfl, .of h10, ⟨isRow_nil, by decide, fun x hx => by simp at hx⟩, fun H11 c11 => q _⟩
    · rw [if_neg (by decide)]
      have IX := I8
      walk_at "go"
      refine ⟨u, p, rfl, IX.u, gp, fun H9 c9 => ?_⟩
      walk_at "go"
      rw [if_pos rfl]
      walk_at "go"
      refine w_newT (Nat.zero_le _) fun e2 H10 n10 c10 h10 => ?_
      walk_at "go"
      exact ⟨e2, [], rfl, .of h10, ⟨isRow_nil, by decide, fun x hx => by simp at hx⟩, fun H11 c11 => q _⟩
end
end My

namespace My
open PySem PySem.Spec PyProof.Rows L2

theorem excs_mk {K : PySem.W.Frag} {h : Heap} {mg : Str → Option Value} {A_DivisionByZero A_ZeroPolynomial A_CellspireError : Addr} (X : K.In h) (G : h.Ns mainGlobals mg) (a_DivisionByZero : PySem.W.nsIn K mainGlobals "DivisionByZero" = some (some (.ref A_DivisionByZero))) (i_DivisionByZero : PySem.W.excIn K A_DivisionByZero [.type "ValueError", .type "Exception", .type "BaseException", .type "object"] "ValueError.__new__" = true) (k_DivisionByZero : PySem.W.keepIn K (.ref A_DivisionByZero) = true) (s_DivisionByZero : PySem.W.subIn K (.ref A_DivisionByZero) (.type "BaseException") = some true) (t_DivisionByZero : PySem.W.typeIn K (.ref A_DivisionByZero) = some (.type "type")) (a_ZeroPolynomial : PySem.W.nsIn K mainGlobals "ZeroPolynomial" = some (some (.ref A_ZeroPolynomial))) (i_ZeroPolynomial : PySem.W.excIn K A_ZeroPolynomial [.type "ValueError", .type "Exception", .type "BaseException", .type "object"] "ValueError.__new__" = true) (k_ZeroPolynomial : PySem.W.keepIn K (.ref A_ZeroPolynomial) = true) (s_ZeroPolynomial : PySem.W.subIn K (.ref A_ZeroPolynomial) (.type "BaseException") = some true) (t_ZeroPolynomial : PySem.W.typeIn K (.ref A_ZeroPolynomial) = some (.type "type")) (a_CellspireError : PySem.W.nsIn K mainGlobals "CellspireError" = some (some (.ref A_CellspireError))) (i_CellspireError : PySem.W.excIn K A_CellspireError [.type "ValueError", .type "Exception", .type "BaseException", .type "object"] "ValueError.__new__" = true) (k_CellspireError : PySem.W.keepIn K (.ref A_CellspireError) = true) (s_CellspireError : PySem.W.subIn K (.ref A_CellspireError) (.type "BaseException") = some true) (t_CellspireError : PySem.W.typeIn K (.ref A_CellspireError) = some (.type "type")) (hg_DivisionByZero : PySem.W.findIn K (.ref A_DivisionByZero) "__getattribute__" = some (some (.builtin "BaseException.__getattribute__"))) (hk_DivisionByZero : PySem.W.findIn K (.ref A_DivisionByZero) "__getattr__" = some none) (hd_DivisionByZero : PySem.W.hasDictIn K A_DivisionByZero = true) (ha_DivisionByZero : PySem.W.findIn K (.ref A_DivisionByZero) "__class__" = some (some (.builtin "object.__class__"))) (hn_DivisionByZero : PySem.W.specialIn K (.builtin "object.__class__") "__get__" = some (some (.builtin "getset_descriptor.__get__"))) (ht_DivisionByZero : PySem.W.takesIn K (.builtin "object.__class__") = some true) (hm_DivisionByZero : PySem.W.mroIn K A_DivisionByZero (.type "object") = some true) (hdd_DivisionByZero : PySem.W.hasDictIn K A_DivisionByZero = true) (e1 : PySem.W.subIn K (.ref A_DivisionByZero) (.ref A_DivisionByZero) = some true) (e2 : PySem.W.kitOne K (.ref A_DivisionByZero) (.ref A_ZeroPolynomial) = some false) (e3 : PySem.W.kitOne K (.ref A_DivisionByZero) (.ref A_CellspireError) = some true) (e4 : PySem.W.kitOne K (.ref A_DivisionByZero) (.type "ValueError") = some true) :
    ∃ A_DivisionByZero A_ZeroPolynomial A_CellspireError : Addr, ExcF K mg "DivisionByZero" A_DivisionByZero ∧ ExcF K mg "ZeroPolynomial" A_ZeroPolynomial ∧ ExcF K mg "CellspireError" A_CellspireError ∧ ExcC K A_DivisionByZero ∧ PySem.W.exmOne K (.ref A_DivisionByZero) (.ref A_DivisionByZero) = some true ∧ PySem.W.kitOne K (.ref A_DivisionByZero) (.ref A_ZeroPolynomial) = some false ∧ PySem.W.kitOne K (.ref A_DivisionByZero) (.ref A_CellspireError) = some true ∧ PySem.W.kitOne K (.ref A_DivisionByZero) (.type "ValueError") = some true :=
  ⟨A_DivisionByZero, A_ZeroPolynomial, A_CellspireError, exc_mk X G a_DivisionByZero i_DivisionByZero k_DivisionByZero s_DivisionByZero t_DivisionByZero, exc_mk X G a_ZeroPolynomial i_ZeroPolynomial k_ZeroPolynomial s_ZeroPolynomial t_ZeroPolynomial, exc_mk X G a_CellspireError i_CellspireError k_CellspireError s_CellspireError t_CellspireError, ⟨hg_DivisionByZero, hk_DivisionByZero, s_DivisionByZero, hd_DivisionByZero, ha_DivisionByZero, hn_DivisionByZero, ht_DivisionByZero, hm_DivisionByZero⟩, PySem.W.exm_ref s_DivisionByZero hdd_DivisionByZero t_DivisionByZero e1, e2, e3, e4⟩
section
variable {P : Program} {w : World} {K : PySem.W.Frag} {mg : Str → Option Value} {base : Heap}
theorem all_law {A_DivisionByZero A_ZeroPolynomial A_CellspireError : Addr} (T : Txt mg) (z_ValueError : mg "ValueError" = none) (X_DivisionByZero : ExcF K mg "DivisionByZero" A_DivisionByZero) (X_ZeroPolynomial : ExcF K mg "ZeroPolynomial" A_ZeroPolynomial) (X_CellspireError : ExcF K mg "CellspireError" A_CellspireError) (XC_DivisionByZero : ExcC K A_DivisionByZero) (e1 : PySem.W.exmOne K (.ref A_DivisionByZero) (.ref A_DivisionByZero) = some true) (e2 : PySem.W.kitOne K (.ref A_DivisionByZero) (.ref A_ZeroPolynomial) = some false) (e3 : PySem.W.kitOne K (.ref A_DivisionByZero) (.ref A_CellspireError) = some true) (e4 : PySem.W.kitOne K (.ref A_DivisionByZero) (.type "ValueError") = some true) {f_whole_power : Addr} {fd_whole_power : FuncData} (D_whole_power : DefF K mg "whole_power" s_whole_power ["a", "n"] f_whole_power fd_whole_power) {f_gcd_of : Addr} {fd_gcd_of : FuncData} (D_gcd_of : DefF K mg "gcd_of" s_gcd_of ["numbers"] f_gcd_of fd_gcd_of) {f_make_row : Addr} {fd_make_row : FuncData} (D_make_row : DefF K mg "make_row" s_make_row ["numbers"] f_make_row fd_make_row) {f_row_scale : Addr} {fd_row_scale : FuncData} (D_row_scale : DefF K mg "row_scale" s_row_scale ["p", "n"] f_row_scale fd_row_scale) {f_row_plus : Addr} {fd_row_plus : FuncData} (D_row_plus : DefF K mg "row_plus" s_row_plus ["p", "q"] f_row_plus fd_row_plus) {f_row_minus : Addr} {fd_row_minus : FuncData} (D_row_minus : DefF K mg "row_minus" s_row_minus ["p", "q"] f_row_minus fd_row_minus) {f_row_slope : Addr} {fd_row_slope : FuncData} (D_row_slope : DefF K mg "row_slope" s_row_slope ["p"] f_row_slope fd_row_slope) {f_row_times : Addr} {fd_row_times : FuncData} (D_row_times : DefF K mg "row_times" s_row_times ["p", "q"] f_row_times fd_row_times) {f_fraction : Addr} {fd_fraction : FuncData} (D_fraction : DefD K mg "fraction" s_fraction ["n", "d"] f_fraction fd_fraction) {f__scaled_value : Addr} {fd__scaled_value : FuncData} (D__scaled_value : DefF K mg "_scaled_value" s__scaled_value ["p", "a"] f__scaled_value fd__scaled_value) {f_row_value : Addr} {fd_row_value : FuncData} (D_row_value : DefF K mg "row_value" s_row_value ["p", "a"] f_row_value fd_row_value) {f_row_primitive : Addr} {fd_row_primitive : FuncData} (D_row_primitive : DefF K mg "row_primitive" s_row_primitive ["p"] f_row_primitive fd_row_primitive) {f_divide_row : Addr} {fd_divide_row : FuncData} (D_divide_row : DefF K mg "divide_row" s_divide_row ["p", "d"] f_divide_row fd_divide_row) {f__law_box : Addr} {fd__law_box : FuncData} (D__law_box : DefF K mg "_law_box" s__law_box ["script"] f__law_box fd__law_box) {f__law_mix : Addr} {fd__law_mix : FuncData} (D__law_mix : DefF K mg "_law_mix" s__law_mix ["cell", "turn"] f__law_mix fd__law_mix) {f__law_draw : Addr} {fd__law_draw : FuncData} (D__law_draw : DefF K mg "_law_draw" s__law_draw ["box", "size"] f__law_draw fd__law_draw) {f__law_gcd : Addr} {fd__law_gcd : FuncData} (D__law_gcd : DefF K mg "_law_gcd" s__law_gcd ["a", "b"] f__law_gcd fd__law_gcd) {f__law_number : Addr} {fd__law_number : FuncData} (D__law_number : DefF K mg "_law_number" s__law_number ["box", "groups"] f__law_number fd__law_number) {f__law_is_int : Addr} {fd__law_is_int : FuncData} (D__law_is_int : DefF K mg "_law_is_int" s__law_is_int ["thing"] f__law_is_int fd__law_is_int) {f__law_same : Addr} {fd__law_same : FuncData} (D__law_same : DefF K mg "_law_same" s__law_same ["told", "due"] f__law_same fd__law_same) {f__law_trim : Addr} {fd__law_trim : FuncData} (D__law_trim : DefF K mg "_law_trim" s__law_trim ["numbers"] f__law_trim fd__law_trim) {f__law_plus : Addr} {fd__law_plus : FuncData} (D__law_plus : DefF K mg "_law_plus" s__law_plus ["p", "q", "scale"] f__law_plus fd__law_plus) {f__law_times : Addr} {fd__law_times : FuncData} (D__law_times : DefF K mg "_law_times" s__law_times ["p", "q"] f__law_times fd__law_times) {f__law_row : Addr} {fd__law_row : FuncData} (D__law_row : DefF K mg "_law_row" s__law_row ["box", "most", "groups"] f__law_row fd__law_row) {f__law_fraction : Addr} {fd__law_fraction : FuncData} (D__law_fraction : DefF K mg "_law_fraction" s__law_fraction ["box"] f__law_fraction fd__law_fraction) {f__law_nearby : Addr} {fd__law_nearby : FuncData} (D__law_nearby : DefF K mg "_law_nearby" s__law_nearby ["p"] f__law_nearby fd__law_nearby) {f__law_inputs : Addr} {fd__law_inputs : FuncData} (D__law_inputs : DefF K mg "_law_inputs" s__law_inputs ["box"] f__law_inputs fd__law_inputs) {f__law_is_row : Addr} {fd__law_is_row : FuncData} (D__law_is_row : DefF K mg "_law_is_row" s__law_is_row ["thing"] f__law_is_row fd__law_is_row) {f__law_value : Addr} {fd__law_value : FuncData} (D__law_value : DefF K mg "_law_value" s__law_value ["p", "a"] f__law_value fd__law_value) {f__law_made : Addr} {fd__law_made : FuncData} (D__law_made : DefF K mg "_law_made" s__law_made ["box", "p"] f__law_made fd__law_made) {f__law_sums : Addr} {fd__law_sums : FuncData} (D__law_sums : DefF K mg "_law_sums" s__law_sums ["p", "d"] f__law_sums fd__law_sums) {f__law_parts : Addr} {fd__law_parts : FuncData} (D__law_parts : DefF K mg "_law_parts" s__law_parts ["p", "a"] f__law_parts fd__law_parts) {f__law_division : Addr} {fd__law_division : FuncData} (D__law_division : DefF K mg "_law_division" s__law_division ["p", "d"] f__law_division fd__law_division) {f__law_refused : Addr} {fd__law_refused : FuncData} (D__law_refused : DefF K mg "_law_refused" s__law_refused ["p"] f__law_refused fd__law_refused) {f_law : Addr} {fd_law : FuncData} (D_law : DefF K mg "law" s_law ["script"] f_law fd_law) : FnOk P w K mg base (L2.CX P w) 6 f_law fd_law ["script"] (sp_law K) := by
  have C_whole_power := c_whole_power (P := P) (w := w) (base := base) (F := D_whole_power)
  have C_gcd_of := c_gcd_of (P := P) (w := w) (base := base) (T := T) (F := D_gcd_of)
  have C_make_row := c_make_row (P := P) (w := w) (base := base) (T := T) (F := D_make_row)
  have C_row_scale := c_row_scale (P := P) (w := w) (base := base) (T := T) (F := D_row_scale)
  have C_row_plus := c_row_plus (P := P) (w := w) (base := base) (T := T) (C_make_row := C_make_row) (F := D_row_plus)
  have C_row_minus := c_row_minus (P := P) (w := w) (base := base) (C_row_plus := C_row_plus) (C_row_scale := C_row_scale) (F := D_row_minus)
  have C_row_slope := c_row_slope (P := P) (w := w) (base := base) (T := T) (F := D_row_slope)
  have C_row_times := c_row_times (P := P) (w := w) (base := base) (T := T) (F := D_row_times)
  have C_fraction := c_fraction (P := P) (w := w) (base := base) (T := T) (F := D_fraction)
  have C__scaled_value := c__scaled_value (P := P) (w := w) (base := base) (T := T) (F := D__scaled_value)
  have C_row_value := c_row_value (P := P) (w := w) (base := base) (C__scaled_value := C__scaled_value) (C_fraction := C_fraction) (F := D_row_value)
  have C_row_primitive := c_row_primitive (P := P) (w := w) (base := base) (T := T) (C_gcd_of := C_gcd_of) (F := D_row_primitive)
  have C_divide_row := c_divide_row (P := P) (w := w) (base := base) (T := T) (X_DivisionByZero := X_DivisionByZero) (C_whole_power := C_whole_power) (C_make_row := C_make_row) (F := D_divide_row)
  have C__law_box := c__law_box (P := P) (w := w) (base := base) (T := T) (F := D__law_box)
  have C__law_mix := c__law_mix (P := P) (w := w) (base := base) (T := T) (F := D__law_mix)
  have C__law_draw := c__law_draw (P := P) (w := w) (base := base) (T := T) (C__law_mix := C__law_mix) (F := D__law_draw)
  have C__law_gcd := c__law_gcd (P := P) (w := w) (base := base) (T := T) (F := D__law_gcd)
  have C__law_number := c__law_number (P := P) (w := w) (base := base) (T := T) (C__law_draw := C__law_draw) (F := D__law_number)
  have C__law_is_int := c__law_is_int (P := P) (w := w) (base := base) (T := T) (F := D__law_is_int)
  have C__law_same := c__law_same (P := P) (w := w) (base := base) (T := T) (C__law_is_int := C__law_is_int) (F := D__law_same)
  have C__law_trim := c__law_trim (P := P) (w := w) (base := base) (T := T) (F := D__law_trim)
  have C__law_plus := c__law_plus (P := P) (w := w) (base := base) (T := T) (C__law_trim := C__law_trim) (F := D__law_plus)
  have C__law_times := c__law_times (P := P) (w := w) (base := base) (T := T) (C__law_trim := C__law_trim) (F := D__law_times)
  have C__law_row := c__law_row (P := P) (w := w) (base := base) (T := T) (C__law_draw := C__law_draw) (C__law_number := C__law_number) (C__law_trim := C__law_trim) (F := D__law_row)
  have C__law_fraction := c__law_fraction (P := P) (w := w) (base := base) (T := T) (C__law_draw := C__law_draw) (C__law_number := C__law_number) (C__law_gcd := C__law_gcd) (F := D__law_fraction)
  have C__law_nearby := c__law_nearby (P := P) (w := w) (base := base) (T := T) (C__law_trim := C__law_trim) (F := D__law_nearby)
  have C__law_inputs := c__law_inputs (P := P) (w := w) (base := base) (T := T) (C__law_draw := C__law_draw) (C__law_fraction := C__law_fraction) (C__law_row := C__law_row) (C__law_nearby := C__law_nearby) (C__law_times := C__law_times) (F := D__law_inputs)
  have C__law_is_row := c__law_is_row (P := P) (w := w) (base := base) (T := T) (C__law_is_int := C__law_is_int) (F := D__law_is_row)
  have C__law_value := c__law_value (P := P) (w := w) (base := base) (T := T) (C__law_gcd := C__law_gcd) (F := D__law_value)
  have C__law_made := c__law_made (P := P) (w := w) (base := base) (T := T) (C__law_draw := C__law_draw) (C_make_row := C_make_row) (C__law_same := C__law_same) (F := D__law_made)
  have C__law_sums := c__law_sums (P := P) (w := w) (base := base) (C_row_plus := C_row_plus) (C_row_minus := C_row_minus) (C_row_times := C_row_times) (C__law_plus := C__law_plus) (C__law_times := C__law_times) (C__law_same := C__law_same) (F := D__law_sums)
  have C__law_parts := c__law_parts (P := P) (w := w) (base := base) (T := T) (C__law_trim := C__law_trim) (C_row_slope := C_row_slope) (C__law_same := C__law_same) (C_row_value := C_row_value) (C__law_value := C__law_value) (C__law_gcd := C__law_gcd) (C_row_primitive := C_row_primitive) (C__law_is_int := C__law_is_int) (F := D__law_parts)
  have C__law_division := c__law_division (P := P) (w := w) (base := base) (T := T) (C_divide_row := C_divide_row) (C__law_is_int := C__law_is_int) (C__law_is_row := C__law_is_row) (C__law_plus := C__law_plus) (C__law_times := C__law_times) (F := D__law_division)
  have C__law_refused := c__law_refused (P := P) (w := w) (base := base) (T := T) (z_ValueError := z_ValueError) (C_divide_row := C_divide_row) (X_DivisionByZero := X_DivisionByZero) (X_ZeroPolynomial := X_ZeroPolynomial) (X_CellspireError := X_CellspireError) (XC_DivisionByZero := XC_DivisionByZero) (e1 := e1) (e2 := e2) (e3 := e3) (e4 := e4) (F := D__law_refused)
  have C_law := c_law (P := P) (w := w) (base := base) (C__law_box := C__law_box) (C__law_inputs := C__law_inputs) (C__law_made := C__law_made) (C__law_sums := C__law_sums) (C__law_parts := C__law_parts) (C__law_division := C__law_division) (C__law_refused := C__law_refused) (F := D_law)
  exact C_law
end
end My

open PySem PySem.W PyProof.Rows in
set_option maxRecDepth 100000 in
set_option maxHeartbeats 0 in
theorem PySem.Challenge.cw_cellspire_k03_rows_and_division_holds : PySem.Challenge.rw_cellspire_k03_rows_and_division.Holds := by
  w_on; o_law; k_head; (case hw => w_witness2)
  k_fill
  refine L2.walk_of (l := PySem.Challenge.rw_cellspire_k03_rows_and_division) (n := 63) (k := 6) (x := "script") (CX := fun w => L2.CX PySem.Challenge.rw_cellspire_k03_rows_and_division.prog w) (sp := fun w => My.sp_law _) rfl (by decide) rfl ⟨rfl, by decide, by decide⟩ (fun w h Y => PySem.W.kIn_of Y) ?F (fun _ _ a ns hl _ hS => ⟨a, ns, rfl, hS, hl, fun _ => rfl⟩) (fun _ _ _ _ _ h => My.cx_no h)
  case F =>
    intro w mg fa h KX G hmg
    obtain ⟨f_whole_power, fd_whole_power, D_whole_power, _⟩ : ∃ f fd, My.DefF _ mg "whole_power" My.s_whole_power ["a", "n"] f fd ∧ True := by
      refine' ⟨_, _, My.def_mk (x := "whole_power") (st := My.s_whole_power) (ps := ["a", "n"]) KX G ?a ?l ?c ?k (fun _ _ _ _ _ _ us hl => match us, hl with | [_, _], _ => rfl), trivial⟩
      (case a => k_is); (case l => k_is); (case c => k_is); (case k => k_is)
    obtain ⟨f_gcd_of, fd_gcd_of, D_gcd_of, _⟩ : ∃ f fd, My.DefF _ mg "gcd_of" My.s_gcd_of ["numbers"] f fd ∧ True := by
      refine' ⟨_, _, My.def_mk (x := "gcd_of") (st := My.s_gcd_of) (ps := ["numbers"]) KX G ?a ?l ?c ?k (fun _ _ _ _ _ _ us hl => match us, hl with | [_], _ => rfl), trivial⟩
      (case a => k_is); (case l => k_is); (case c => k_is); (case k => k_is)
    obtain ⟨f_make_row, fd_make_row, D_make_row, _⟩ : ∃ f fd, My.DefF _ mg "make_row" My.s_make_row ["numbers"] f fd ∧ True := by
      refine' ⟨_, _, My.def_mk (x := "make_row") (st := My.s_make_row) (ps := ["numbers"]) KX G ?a ?l ?c ?k (fun _ _ _ _ _ _ us hl => match us, hl with | [_], _ => rfl), trivial⟩
      (case a => k_is); (case l => k_is); (case c => k_is); (case k => k_is)
    obtain ⟨f_row_scale, fd_row_scale, D_row_scale, _⟩ : ∃ f fd, My.DefF _ mg "row_scale" My.s_row_scale ["p", "n"] f fd ∧ True := by
      refine' ⟨_, _, My.def_mk (x := "row_scale") (st := My.s_row_scale) (ps := ["p", "n"]) KX G ?a ?l ?c ?k (fun _ _ _ _ _ _ us hl => match us, hl with | [_, _], _ => rfl), trivial⟩
      (case a => k_is); (case l => k_is); (case c => k_is); (case k => k_is)
    obtain ⟨f_row_plus, fd_row_plus, D_row_plus, _⟩ : ∃ f fd, My.DefF _ mg "row_plus" My.s_row_plus ["p", "q"] f fd ∧ True := by
      refine' ⟨_, _, My.def_mk (x := "row_plus") (st := My.s_row_plus) (ps := ["p", "q"]) KX G ?a ?l ?c ?k (fun _ _ _ _ _ _ us hl => match us, hl with | [_, _], _ => rfl), trivial⟩
      (case a => k_is); (case l => k_is); (case c => k_is); (case k => k_is)
    obtain ⟨f_row_minus, fd_row_minus, D_row_minus, _⟩ : ∃ f fd, My.DefF _ mg "row_minus" My.s_row_minus ["p", "q"] f fd ∧ True := by
      refine' ⟨_, _, My.def_mk (x := "row_minus") (st := My.s_row_minus) (ps := ["p", "q"]) KX G ?a ?l ?c ?k (fun _ _ _ _ _ _ us hl => match us, hl with | [_, _], _ => rfl), trivial⟩
      (case a => k_is); (case l => k_is); (case c => k_is); (case k => k_is)
    obtain ⟨f_row_slope, fd_row_slope, D_row_slope, _⟩ : ∃ f fd, My.DefF _ mg "row_slope" My.s_row_slope ["p"] f fd ∧ True := by
      refine' ⟨_, _, My.def_mk (x := "row_slope") (st := My.s_row_slope) (ps := ["p"]) KX G ?a ?l ?c ?k (fun _ _ _ _ _ _ us hl => match us, hl with | [_], _ => rfl), trivial⟩
      (case a => k_is); (case l => k_is); (case c => k_is); (case k => k_is)
    obtain ⟨f_row_times, fd_row_times, D_row_times, _⟩ : ∃ f fd, My.DefF _ mg "row_times" My.s_row_times ["p", "q"] f fd ∧ True := by
      refine' ⟨_, _, My.def_mk (x := "row_times") (st := My.s_row_times) (ps := ["p", "q"]) KX G ?a ?l ?c ?k (fun _ _ _ _ _ _ us hl => match us, hl with | [_, _], _ => rfl), trivial⟩
      (case a => k_is); (case l => k_is); (case c => k_is); (case k => k_is)
    obtain ⟨f_fraction, fd_fraction, D_fraction⟩ : ∃ f fd, My.DefD _ mg "fraction" My.s_fraction ["n", "d"] f fd := by
      refine' ⟨_, _, My.defd_mk (x := "fraction") (st := My.s_fraction) (ps := ["n", "d"]) (dvs := [.int 1]) KX G ?a ?l ?c ?k ?t ?d (by decide) ?b⟩
      (case a => k_is); (case l => k_is); (case c => k_is); (case k => k_is)
      (case t => k_is); (case d => exact .cons ⟨_, rfl⟩ .nil); (case b => exact fun _ _ _ _ _ _ _ us its hu hi => match us, its, hu, hi with | [_, _], [_], _, _ => ⟨_, rfl, rfl⟩)
    obtain ⟨f__scaled_value, fd__scaled_value, D__scaled_value, _⟩ : ∃ f fd, My.DefF _ mg "_scaled_value" My.s__scaled_value ["p", "a"] f fd ∧ True := by
      refine' ⟨_, _, My.def_mk (x := "_scaled_value") (st := My.s__scaled_value) (ps := ["p", "a"]) KX G ?a ?l ?c ?k (fun _ _ _ _ _ _ us hl => match us, hl with | [_, _], _ => rfl), trivial⟩
      (case a => k_is); (case l => k_is); (case c => k_is); (case k => k_is)
    obtain ⟨f_row_value, fd_row_value, D_row_value, _⟩ : ∃ f fd, My.DefF _ mg "row_value" My.s_row_value ["p", "a"] f fd ∧ True := by
      refine' ⟨_, _, My.def_mk (x := "row_value") (st := My.s_row_value) (ps := ["p", "a"]) KX G ?a ?l ?c ?k (fun _ _ _ _ _ _ us hl => match us, hl with | [_, _], _ => rfl), trivial⟩
      (case a => k_is); (case l => k_is); (case c => k_is); (case k => k_is)
    obtain ⟨f_row_primitive, fd_row_primitive, D_row_primitive, _⟩ : ∃ f fd, My.DefF _ mg "row_primitive" My.s_row_primitive ["p"] f fd ∧ True := by
      refine' ⟨_, _, My.def_mk (x := "row_primitive") (st := My.s_row_primitive) (ps := ["p"]) KX G ?a ?l ?c ?k (fun _ _ _ _ _ _ us hl => match us, hl with | [_], _ => rfl), trivial⟩
      (case a => k_is); (case l => k_is); (case c => k_is); (case k => k_is)
    obtain ⟨f_divide_row, fd_divide_row, D_divide_row, _⟩ : ∃ f fd, My.DefF _ mg "divide_row" My.s_divide_row ["p", "d"] f fd ∧ True := by
      refine' ⟨_, _, My.def_mk (x := "divide_row") (st := My.s_divide_row) (ps := ["p", "d"]) KX G ?a ?l ?c ?k (fun _ _ _ _ _ _ us hl => match us, hl with | [_, _], _ => rfl), trivial⟩
      (case a => k_is); (case l => k_is); (case c => k_is); (case k => k_is)
    obtain ⟨f__law_box, fd__law_box, D__law_box, _⟩ : ∃ f fd, My.DefF _ mg "_law_box" My.s__law_box ["script"] f fd ∧ True := by
      refine' ⟨_, _, My.def_mk (x := "_law_box") (st := My.s__law_box) (ps := ["script"]) KX G ?a ?l ?c ?k (fun _ _ _ _ _ _ us hl => match us, hl with | [_], _ => rfl), trivial⟩
      (case a => k_is); (case l => k_is); (case c => k_is); (case k => k_is)
    obtain ⟨f__law_mix, fd__law_mix, D__law_mix, _⟩ : ∃ f fd, My.DefF _ mg "_law_mix" My.s__law_mix ["cell", "turn"] f fd ∧ True := by
      refine' ⟨_, _, My.def_mk (x := "_law_mix") (st := My.s__law_mix) (ps := ["cell", "turn"]) KX G ?a ?l ?c ?k (fun _ _ _ _ _ _ us hl => match us, hl with | [_, _], _ => rfl), trivial⟩
      (case a => k_is); (case l => k_is); (case c => k_is); (case k => k_is)
    obtain ⟨f__law_draw, fd__law_draw, D__law_draw, _⟩ : ∃ f fd, My.DefF _ mg "_law_draw" My.s__law_draw ["box", "size"] f fd ∧ True := by
      refine' ⟨_, _, My.def_mk (x := "_law_draw") (st := My.s__law_draw) (ps := ["box", "size"]) KX G ?a ?l ?c ?k (fun _ _ _ _ _ _ us hl => match us, hl with | [_, _], _ => rfl), trivial⟩
      (case a => k_is); (case l => k_is); (case c => k_is); (case k => k_is)
    obtain ⟨f__law_gcd, fd__law_gcd, D__law_gcd, _⟩ : ∃ f fd, My.DefF _ mg "_law_gcd" My.s__law_gcd ["a", "b"] f fd ∧ True := by
      refine' ⟨_, _, My.def_mk (x := "_law_gcd") (st := My.s__law_gcd) (ps := ["a", "b"]) KX G ?a ?l ?c ?k (fun _ _ _ _ _ _ us hl => match us, hl with | [_, _], _ => rfl), trivial⟩
      (case a => k_is); (case l => k_is); (case c => k_is); (case k => k_is)
    obtain ⟨f__law_number, fd__law_number, D__law_number, _⟩ : ∃ f fd, My.DefF _ mg "_law_number" My.s__law_number ["box", "groups"] f fd ∧ True := by
      refine' ⟨_, _, My.def_mk (x := "_law_number") (st := My.s__law_number) (ps := ["box", "groups"]) KX G ?a ?l ?c ?k (fun _ _ _ _ _ _ us hl => match us, hl with | [_, _], _ => rfl), trivial⟩
      (case a => k_is); (case l => k_is); (case c => k_is); (case k => k_is)
    obtain ⟨f__law_is_int, fd__law_is_int, D__law_is_int, _⟩ : ∃ f fd, My.DefF _ mg "_law_is_int" My.s__law_is_int ["thing"] f fd ∧ True := by
      refine' ⟨_, _, My.def_mk (x := "_law_is_int") (st := My.s__law_is_int) (ps := ["thing"]) KX G ?a ?l ?c ?k (fun _ _ _ _ _ _ us hl => match us, hl with | [_], _ => rfl), trivial⟩
      (case a => k_is); (case l => k_is); (case c => k_is); (case k => k_is)
    obtain ⟨f__law_same, fd__law_same, D__law_same, _⟩ : ∃ f fd, My.DefF _ mg "_law_same" My.s__law_same ["told", "due"] f fd ∧ True := by
      refine' ⟨_, _, My.def_mk (x := "_law_same") (st := My.s__law_same) (ps := ["told", "due"]) KX G ?a ?l ?c ?k (fun _ _ _ _ _ _ us hl => match us, hl with | [_, _], _ => rfl), trivial⟩
      (case a => k_is); (case l => k_is); (case c => k_is); (case k => k_is)
    obtain ⟨f__law_trim, fd__law_trim, D__law_trim, _⟩ : ∃ f fd, My.DefF _ mg "_law_trim" My.s__law_trim ["numbers"] f fd ∧ True := by
      refine' ⟨_, _, My.def_mk (x := "_law_trim") (st := My.s__law_trim) (ps := ["numbers"]) KX G ?a ?l ?c ?k (fun _ _ _ _ _ _ us hl => match us, hl with | [_], _ => rfl), trivial⟩
      (case a => k_is); (case l => k_is); (case c => k_is); (case k => k_is)
    obtain ⟨f__law_plus, fd__law_plus, D__law_plus, _⟩ : ∃ f fd, My.DefF _ mg "_law_plus" My.s__law_plus ["p", "q", "scale"] f fd ∧ True := by
      refine' ⟨_, _, My.def_mk (x := "_law_plus") (st := My.s__law_plus) (ps := ["p", "q", "scale"]) KX G ?a ?l ?c ?k (fun _ _ _ _ _ _ us hl => match us, hl with | [_, _, _], _ => rfl), trivial⟩
      (case a => k_is); (case l => k_is); (case c => k_is); (case k => k_is)
    obtain ⟨f__law_times, fd__law_times, D__law_times, _⟩ : ∃ f fd, My.DefF _ mg "_law_times" My.s__law_times ["p", "q"] f fd ∧ True := by
      refine' ⟨_, _, My.def_mk (x := "_law_times") (st := My.s__law_times) (ps := ["p", "q"]) KX G ?a ?l ?c ?k (fun _ _ _ _ _ _ us hl => match us, hl with | [_, _], _ => rfl), trivial⟩
      (case a => k_is); (case l => k_is); (case c => k_is); (case k => k_is)
    obtain ⟨f__law_row, fd__law_row, D__law_row, _⟩ : ∃ f fd, My.DefF _ mg "_law_row" My.s__law_row ["box", "most", "groups"] f fd ∧ True := by
      refine' ⟨_, _, My.def_mk (x := "_law_row") (st := My.s__law_row) (ps := ["box", "most", "groups"]) KX G ?a ?l ?c ?k (fun _ _ _ _ _ _ us hl => match us, hl with | [_, _, _], _ => rfl), trivial⟩
      (case a => k_is); (case l => k_is); (case c => k_is); (case k => k_is)
    obtain ⟨f__law_fraction, fd__law_fraction, D__law_fraction, _⟩ : ∃ f fd, My.DefF _ mg "_law_fraction" My.s__law_fraction ["box"] f fd ∧ True := by
      refine' ⟨_, _, My.def_mk (x := "_law_fraction") (st := My.s__law_fraction) (ps := ["box"]) KX G ?a ?l ?c ?k (fun _ _ _ _ _ _ us hl => match us, hl with | [_], _ => rfl), trivial⟩
      (case a => k_is); (case l => k_is); (case c => k_is); (case k => k_is)
    obtain ⟨f__law_nearby, fd__law_nearby, D__law_nearby, _⟩ : ∃ f fd, My.DefF _ mg "_law_nearby" My.s__law_nearby ["p"] f fd ∧ True := by
      refine' ⟨_, _, My.def_mk (x := "_law_nearby") (st := My.s__law_nearby) (ps := ["p"]) KX G ?a ?l ?c ?k (fun _ _ _ _ _ _ us hl => match us, hl with | [_], _ => rfl), trivial⟩
      (case a => k_is); (case l => k_is); (case c => k_is); (case k => k_is)
    obtain ⟨f__law_inputs, fd__law_inputs, D__law_inputs, _⟩ : ∃ f fd, My.DefF _ mg "_law_inputs" My.s__law_inputs ["box"] f fd ∧ True := by
      refine' ⟨_, _, My.def_mk (x := "_law_inputs") (st := My.s__law_inputs) (ps := ["box"]) KX G ?a ?l ?c ?k (fun _ _ _ _ _ _ us hl => match us, hl with | [_], _ => rfl), trivial⟩
      (case a => k_is); (case l => k_is); (case c => k_is); (case k => k_is)
    obtain ⟨f__law_is_row, fd__law_is_row, D__law_is_row, _⟩ : ∃ f fd, My.DefF _ mg "_law_is_row" My.s__law_is_row ["thing"] f fd ∧ True := by
      refine' ⟨_, _, My.def_mk (x := "_law_is_row") (st := My.s__law_is_row) (ps := ["thing"]) KX G ?a ?l ?c ?k (fun _ _ _ _ _ _ us hl => match us, hl with | [_], _ => rfl), trivial⟩
      (case a => k_is); (case l => k_is); (case c => k_is); (case k => k_is)
    obtain ⟨f__law_value, fd__law_value, D__law_value, _⟩ : ∃ f fd, My.DefF _ mg "_law_value" My.s__law_value ["p", "a"] f fd ∧ True := by
      refine' ⟨_, _, My.def_mk (x := "_law_value") (st := My.s__law_value) (ps := ["p", "a"]) KX G ?a ?l ?c ?k (fun _ _ _ _ _ _ us hl => match us, hl with | [_, _], _ => rfl), trivial⟩
      (case a => k_is); (case l => k_is); (case c => k_is); (case k => k_is)
    obtain ⟨f__law_made, fd__law_made, D__law_made, _⟩ : ∃ f fd, My.DefF _ mg "_law_made" My.s__law_made ["box", "p"] f fd ∧ True := by
      refine' ⟨_, _, My.def_mk (x := "_law_made") (st := My.s__law_made) (ps := ["box", "p"]) KX G ?a ?l ?c ?k (fun _ _ _ _ _ _ us hl => match us, hl with | [_, _], _ => rfl), trivial⟩
      (case a => k_is); (case l => k_is); (case c => k_is); (case k => k_is)
    obtain ⟨f__law_sums, fd__law_sums, D__law_sums, _⟩ : ∃ f fd, My.DefF _ mg "_law_sums" My.s__law_sums ["p", "d"] f fd ∧ True := by
      refine' ⟨_, _, My.def_mk (x := "_law_sums") (st := My.s__law_sums) (ps := ["p", "d"]) KX G ?a ?l ?c ?k (fun _ _ _ _ _ _ us hl => match us, hl with | [_, _], _ => rfl), trivial⟩
      (case a => k_is); (case l => k_is); (case c => k_is); (case k => k_is)
    obtain ⟨f__law_parts, fd__law_parts, D__law_parts, _⟩ : ∃ f fd, My.DefF _ mg "_law_parts" My.s__law_parts ["p", "a"] f fd ∧ True := by
      refine' ⟨_, _, My.def_mk (x := "_law_parts") (st := My.s__law_parts) (ps := ["p", "a"]) KX G ?a ?l ?c ?k (fun _ _ _ _ _ _ us hl => match us, hl with | [_, _], _ => rfl), trivial⟩
      (case a => k_is); (case l => k_is); (case c => k_is); (case k => k_is)
    obtain ⟨f__law_division, fd__law_division, D__law_division, _⟩ : ∃ f fd, My.DefF _ mg "_law_division" My.s__law_division ["p", "d"] f fd ∧ True := by
      refine' ⟨_, _, My.def_mk (x := "_law_division") (st := My.s__law_division) (ps := ["p", "d"]) KX G ?a ?l ?c ?k (fun _ _ _ _ _ _ us hl => match us, hl with | [_, _], _ => rfl), trivial⟩
      (case a => k_is); (case l => k_is); (case c => k_is); (case k => k_is)
    obtain ⟨f__law_refused, fd__law_refused, D__law_refused, _⟩ : ∃ f fd, My.DefF _ mg "_law_refused" My.s__law_refused ["p"] f fd ∧ True := by
      refine' ⟨_, _, My.def_mk (x := "_law_refused") (st := My.s__law_refused) (ps := ["p"]) KX G ?a ?l ?c ?k (fun _ _ _ _ _ _ us hl => match us, hl with | [_], _ => rfl), trivial⟩
      (case a => k_is); (case l => k_is); (case c => k_is); (case k => k_is)
    obtain ⟨f_law, fd_law, D_law, B⟩ : ∃ f fd, My.DefF _ mg "law" My.s_law ["script"] f fd ∧ ∀ (s : Shared) (v : Value), BindsTo s fd ⟨[v], []⟩ [("script", v)] := by
      refine' ⟨_, _, My.def_mk (x := "law") (st := My.s_law) (ps := ["script"]) KX G ?a ?l ?c ?k (fun _ _ _ _ _ _ us hl => match us, hl with | [_], _ => rfl), fun s v => .of_eq rfl⟩
      (case a => k_is); (case l => k_is); (case c => k_is); (case k => k_is)
    obtain ⟨A_DivisionByZero, A_ZeroPolynomial, A_CellspireError, X_DivisionByZero, X_ZeroPolynomial, X_CellspireError, XC_DivisionByZero, e1, e2, e3, e4⟩ := by
      refine' My.excs_mk KX G ?a_DivisionByZero ?i_DivisionByZero ?k_DivisionByZero ?s_DivisionByZero ?t_DivisionByZero ?a_ZeroPolynomial ?i_ZeroPolynomial ?k_ZeroPolynomial ?s_ZeroPolynomial ?t_ZeroPolynomial ?a_CellspireError ?i_CellspireError ?k_CellspireError ?s_CellspireError ?t_CellspireError ?hg_DivisionByZero ?hk_DivisionByZero ?hd_DivisionByZero ?ha_DivisionByZero ?hn_DivisionByZero ?ht_DivisionByZero ?hm_DivisionByZero ?hdd_DivisionByZero ?e1 ?e2 ?e3 ?e4
      (case a_DivisionByZero => k_is); (case i_DivisionByZero => k_exc); (case k_DivisionByZero => k_is); (case s_DivisionByZero => k_is); (case t_DivisionByZero => k_is); (case a_ZeroPolynomial => k_is); (case i_ZeroPolynomial => k_exc); (case k_ZeroPolynomial => k_is); (case s_ZeroPolynomial => k_is); (case t_ZeroPolynomial => k_is); (case a_CellspireError => k_is); (case i_CellspireError => k_exc); (case k_CellspireError => k_is); (case s_CellspireError => k_is); (case t_CellspireError => k_is); (case hg_DivisionByZero => k_is); (case hk_DivisionByZero => k_is); (case hd_DivisionByZero => k_is); (case ha_DivisionByZero => k_is); (case hn_DivisionByZero => k_is); (case ht_DivisionByZero => k_is); (case hm_DivisionByZero => k_is); (case hdd_DivisionByZero => k_is); (case e1 => first | rfl | k_is); (case e2 => kit_is); (case e3 => kit_is); (case e4 => kit_is)
    have z_ValueError : mg "ValueError" = none := by refine' PySem.W.mg_none_of KX G ?a; (case a => k_is)
    have T : My.Txt mg := by
      refine' ⟨PySem.W.mg_none_of KX G ?z1, PySem.W.mg_none_of KX G ?z2, PySem.W.mg_none_of KX G ?z3, PySem.W.mg_none_of KX G ?z4, PySem.W.mg_none_of KX G ?z5, PySem.W.mg_none_of KX G ?z6, PySem.W.mg_none_of KX G ?z7, PySem.W.mg_none_of KX G ?z8, PySem.W.mg_none_of KX G ?z9, PySem.W.mg_none_of KX G ?z10, PySem.W.mg_none_of KX G ?z11, PySem.W.mg_none_of KX G ?z12, PySem.W.mg_none_of KX G ?z13, PySem.W.mg_of KX G ?z14⟩
      (case z1 => k_is); (case z2 => k_is); (case z3 => k_is); (case z4 => k_is); (case z5 => k_is); (case z6 => k_is); (case z7 => k_is); (case z8 => k_is); (case z9 => k_is); (case z10 => k_is); (case z11 => k_is); (case z12 => k_is); (case z13 => k_is); (case z14 => k_is)
    have e := hmg.symm.trans D_law.mgf
    cases e
    exact ⟨fd_law, B, fun base _ _ => My.all_law (T := T) (z_ValueError := z_ValueError) (X_DivisionByZero := X_DivisionByZero) (X_ZeroPolynomial := X_ZeroPolynomial) (X_CellspireError := X_CellspireError) (XC_DivisionByZero := XC_DivisionByZero) (e1 := e1) (e2 := e2) (e3 := e3) (e4 := e4) (D_whole_power := D_whole_power) (D_gcd_of := D_gcd_of) (D_make_row := D_make_row) (D_row_scale := D_row_scale) (D_row_plus := D_row_plus) (D_row_minus := D_row_minus) (D_row_slope := D_row_slope) (D_row_times := D_row_times) (D_fraction := D_fraction) (D__scaled_value := D__scaled_value) (D_row_value := D_row_value) (D_row_primitive := D_row_primitive) (D_divide_row := D_divide_row) (D__law_box := D__law_box) (D__law_mix := D__law_mix) (D__law_draw := D__law_draw) (D__law_gcd := D__law_gcd) (D__law_number := D__law_number) (D__law_is_int := D__law_is_int) (D__law_same := D__law_same) (D__law_trim := D__law_trim) (D__law_plus := D__law_plus) (D__law_times := D__law_times) (D__law_row := D__law_row) (D__law_fraction := D__law_fraction) (D__law_nearby := D__law_nearby) (D__law_inputs := D__law_inputs) (D__law_is_row := D__law_is_row) (D__law_value := D__law_value) (D__law_made := D__law_made) (D__law_sums := D__law_sums) (D__law_parts := D__law_parts) (D__law_division := D__law_division) (D__law_refused := D__law_refused) (D_law := D_law)⟩
