import PyProof.Rows.All
import Wide.All
import OpenK.AllK
import Wide.FinOn
import HandS.ForMost
import HandS.ForExc
import HandS.IsInst
import HandS.Style
import HandS.Wide
import HandS.Codes
import HandS.Defaults
import HandS.EndBits
import PySem.Challenge.RW_everymatch_k60_tallest_by_least_widths
set_option Elab.async false
set_option linter.all false
set_option maxRecDepth 100000
set_option maxHeartbeats 4000000
namespace EM
open PySem PySem.Spec PyProof.Rows L2
/-! ### the top's facts, in short forms -/
/-- a def of the top without defaults -/
structure DefAt (K : PySem.W.Frag) (mg : Str → Option Value) (x : Str) (st : Stmt) (ps : List Str) : Prop where
  ex : ∃ (f : Addr) (fd : FuncData), mg x = some (.ref f) ∧ Fun K x x st f fd ∧ Binds K fd ps []
/-- a def with defaults dvs (all of them lacking, or none) -/
structure DefAtD (K : PySem.W.Frag) (mg : Str → Option Value) (x : Str) (st : Stmt) (ps : List Str) (dvs : List V) : Prop where
  ex : ∃ (f : Addr) (fd : FuncData), mg x = some (.ref f) ∧ FunD K x x (defArgs st) (defBody st) (defScope st) dvs [] f fd ∧ Binds K fd ps [] ∧ ∃ ds, Vals dvs ds ∧ Binds K fd ps ds
structure ExcAt (K : PySem.W.Frag) (mg : Str → Option Value) (x : Str) (C : Addr) : Prop where
  g : mg x = some (.ref C)
  x : PySem.W.excIn K C [.type "ValueError", .type "Exception", .type "BaseException", .type "object"] "ValueError.__new__" = true
  k : PySem.W.keepIn K (.ref C) = true
  b : PySem.W.subIn K (.ref C) (.type "BaseException") = some true
  t : PySem.W.typeIn K (.ref C) = some (.type "type")
  m : PySem.W.exmOne K (.ref C) (.ref C) = some true
/-- a def that keeps its promise, by its name -/
structure Cl (P : Program) (w : World) (K : PySem.W.Frag) (mg : Str → Option Value) (base : Heap) (k : Nat) (x : Str) (ps : List Str) (sp : Sp) : Prop where
  ex : ∃ (f : Addr) (fd : FuncData), FnOk P w K mg base (L2.CX P w) k f fd ps sp ∧ mg x = some (.ref f) ∧ PySem.W.keepIn K (.ref f) = true ∧ Binds K fd ps []
section
variable {P : Program} {w : World} {K : PySem.W.Frag} {mg : Str → Option Value} {base : Heap}
theorem DefAt.ok {x : Str} {st : Stmt} {N ps : List Str} {k : Nat} {sp : Sp} (D : DefAt K mg x st ps) (S : FnScope N ps (defScope st)) (len : ∀ vs H Q E, sp vs H Q E → vs.length = ps.length)
    (hbody : ∀ (f : Addr) (cdv : Value) (A : Around) (outer : List Env) (s : Shared) (H : Hp) (vs : List V) (Q : VK) (E : XK), Room k (A.deeper (envOfC x (defScope st) s.heap.objs.size f cdv)) → sp vs H Q E →
      ∃ t, PSs (cxOf (L2.CX P w) P w K mg base N x (defScope st) f cdv A outer s H E) (defBody st) t ∧ t { nx := fun _ H' => Q .non H', rt := Q } (start N vs) H) : Cl P w K mg base (k + 1) x ps sp := by
  obtain ⟨f, fd, hm, F, hb⟩ := D.ex
  exact ⟨f, fd, F.okX S len fun cdv A outer s H vs Q E hr h => hbody f cdv A outer s H vs Q E hr h, hm, F.kp, hb⟩
theorem DefAtD.ok {x : Str} {st : Stmt} {N ps : List Str} {dvs : List V} {k : Nat} {sp : Sp} (D : DefAtD K mg x st ps dvs) (S : FnScope N ps (defScope st)) (len : ∀ vs H Q E, sp vs H Q E → vs.length = ps.length)
    (hbody : ∀ (f : Addr) (cdv : Value) (A : Around) (outer : List Env) (s : Shared) (H : Hp) (vs : List V) (Q : VK) (E : XK), Room k (A.deeper (envOfC x (defScope st) s.heap.objs.size f cdv)) → sp vs H Q E →
      ∃ t, PSs (cxOf (L2.CX P w) P w K mg base N x (defScope st) f cdv A outer s H E) (defBody st) t ∧ t { nx := fun _ H' => Q .non H', rt := Q } (start N vs) H) : Cl P w K mg base (k + 1) x ps sp := by
  obtain ⟨f, fd, hm, F, hb, _⟩ := D.ex
  exact ⟨f, fd, F.ok S len fun cdv A outer s H vs Q E hr h => hbody f cdv A outer s H vs Q E hr h, hm, F.kp, hb⟩
/-- a promise that is never asked -/
theorem DefAt.never {x : Str} {st : Stmt} {ps : List Str} {k : Nat} {sp : Sp} (D : DefAt K mg x st ps) (h : ∀ vs H Q E, ¬ sp vs H Q E) : Cl P w K mg base k x ps sp := by
  obtain ⟨f, fd, hm, F, hb⟩ := D.ex
  exact ⟨f, fd, ⟨fun vs H Q E z => (h vs H Q E z).elim, fun A outer s H args us vs Q E _ _ _ _ z => (h vs H Q E z).elim⟩, hm, F.kp, hb⟩
theorem Cl.mono {x : Str} {ps : List Str} {sp : Sp} {j k : Nat} (c : Cl P w K mg base j x ps sp) (h : j ≤ k) : Cl P w K mg base k x ps sp := by
  obtain ⟨f, fd, F, r⟩ := c.ex
  exact ⟨f, fd, F.mono h, r⟩
theorem Cl.imp {x : Str} {ps : List Str} {sp sp' : Sp} {k : Nat} (c : Cl P w K mg base k x ps sp) (h : ∀ vs H Q E, sp' vs H Q E → sp vs H Q E) : Cl P w K mg base k x ps sp' := by
  obtain ⟨f, fd, F, r⟩ := c.ex
  exact ⟨f, fd, F.imp h, r⟩
end
section
variable {X : Cx} {k j : Nat} {x : Str} {ps : List Str} {sp : Sp} {e : Expr} {es : List Expr} {t : TA} {p pos : Pos} {E : XK} {W : WX}
/-- f(..), which raises nothing here -/
theorem pcN (c : Cl X.prog X.w X.K X.mg X.base k x ps sp) (hr : Room j X.A) (hk : k ≤ j) (ha : PA X (e :: es) t) (hg : Gl X x := by rfl)
    (hdb : (x == ("__debug__" : Str)) = false := by decide) (he : starEach (e :: es) X.env = (false, eval e X.env) :: starEach es X.env := by rfl) (hpl : (backTo pos (starEach es X.env)).any (·.1) = false := by rfl) :
    PE X (.Call (.Name x p) (e :: es) [] pos) (tCall sp [] E0 t) := by
  obtain ⟨f, fd, F, hm, kp, b⟩ := c.ex
  exact pe_call F (hr.mono hk) hg hm kp b .nil passL ha hdb he hpl
/-- f(..), what it raises goes on to where the def's own errors go -/
theorem pcT (c : Cl X.prog X.w X.K X.mg X.base k x ps sp) (hr : Room j X.A) (hk : k ≤ j) (tk : Takes X fun cls d _ H => E cls d H) (ha : PA X (e :: es) t) (hg : Gl X x := by rfl)
    (hdb : (x == ("__debug__" : Str)) = false := by decide) (he : starEach (e :: es) X.env = (false, eval e X.env) :: starEach es X.env := by rfl) (hpl : (backTo pos (starEach es X.env)).any (·.1) = false := by rfl) :
    PE X (.Call (.Name x p) (e :: es) [] pos) (tCall sp [] E t) := by
  obtain ⟨f, fd, F, hm, kp, b⟩ := c.ex
  exact pe_call F (hr.mono hk) hg hm kp b .nil (passes_call tk fun _ _ _ _ h => h) ha hdb he hpl
/-- f(..) in a try's body -/
theorem pcS (c : Cl X.prog X.w X.K X.mg X.base k x ps sp) (hr : Room j X.A) (hk : k ≤ j) (tk : Takes X W) (ha : PA X (e :: es) t) (hg : Gl X x := by rfl)
    (hdb : (x == ("__debug__" : Str)) = false := by decide) (he : starEach (e :: es) X.env = (false, eval e X.env) :: starEach es X.env := by rfl) (hpl : (backTo pos (starEach es X.env)).any (·.1) = false := by rfl) :
    PE X (.Call (.Name x p) (e :: es) [] pos) (tCallS sp (WE W) t) := by
  obtain ⟨f, fd, F, hm, kp, b⟩ := c.ex
  exact pe_callS F (hr.mono hk) hg hm kp b (fun σ => passAt tk σ) ha hdb he hpl
end
/-! ### kinds of values -/
theorem ty_int {K : PySem.W.Frag} {H : Hp} (i : Int) : TyX K H (.int i) (.type "int") := .base (.int i)
theorem ty_bl {K : PySem.W.Frag} {H : Hp} (i : Bool) : TyX K H (.bl i) (.type "bool") := .base (.bl i)
theorem ty_non {K : PySem.W.Frag} {H : Hp} : TyX K H .non (.type "NoneType") := .base .non
theorem ty_str {K : PySem.W.Frag} {H : Hp} (i : Str) : TyX K H (.str i) (.type "str") := .base (.str i)
theorem ty_l {K : PySem.W.Frag} {H : Hp} {a : Addr} {xs : List V} (h : SqL K H a xs) : TyX K H (.ref a) (.type "list") := by
  rcases h with (h | ⟨o, h⟩) | ⟨o, its, n, h1, h2, _⟩
  · exact .base (.lst h)
  · exact .base (.frz h)
  · exact .kList h1 h2
theorem ty_t {K : PySem.W.Frag} {H : Hp} {a : Addr} {xs : List V} (h : SqT K H a xs) : TyX K H (.ref a) (.type "tuple") := by
  rcases h with (h | ⟨o, h⟩) | ⟨o, its, n, h1, h2, _⟩
  · exact .base (.tup h)
  · exact .fTuple h
  · exact .kTuple h1 h2
theorem sqL_of {K : PySem.W.Frag} {H : Hp} {a : Addr} {xs : List V} (h : H a = some (.lst xs)) : SqL K H a xs := .inl (.inl h)
theorem sqT_of {K : PySem.W.Frag} {H : Hp} {a : Addr} {xs : List V} (h : H a = some (.tup xs)) : SqT K H a xs := .inl (.inl h)
theorem same_new {H : Hp} {p : Addr} {o : HO} (h : H p = none) : Same H (upd H p o) := fun b x e => by
  rw [upd_ne (ne_of_none e h)]
  exact e
theorem Same.seqT {K : PySem.W.Frag} {H H' : Hp} {a : Addr} {xs : List V} (e : Same H H') (h : SqT K H a xs) : SqT K H' a xs := by
  rcases h with (h | ⟨o, h⟩) | h
  · exact .inl (.inl (e _ _ h))
  · exact .inl (.inr ⟨o, e _ _ h⟩)
  · exact .inr h
/-- all but what stands at p is as it was -/
def But (p : Addr) (H H' : Hp) : Prop := ∀ b o, b ≠ p → H b = some o → H' b = some o
theorem But.refl (p : Addr) (H : Hp) : But p H H := fun _ _ _ h => h
theorem But.trans {p : Addr} {H H1 H2 : Hp} (a : But p H H1) (b : But p H1 H2) : But p H H2 := fun c o n h => b c o n (a c o n h)
theorem But.of {p : Addr} {H H' : Hp} (s : Same H H') : But p H H' := fun c o _ h => s c o h
theorem but_upd {p : Addr} {H : Hp} {o : HO} : But p H (upd H p o) := fun c u n h => by rw [upd_ne n]; exact h
theorem But.seqT {K : PySem.W.Frag} {H H' : Hp} {a p : Addr} {xs ys : List V} (e : But p H H') (hp : H p = some (.lst ys)) (h : SqT K H a xs) : SqT K H' a xs := by
  rcases h with (h | ⟨o, h⟩) | h
  · exact .inl (.inl (e _ _ (ne_of h hp (fun z => by cases z)) h))
  · exact .inl (.inr ⟨o, e _ _ (ne_of h hp (fun z => by cases z)) h⟩)
  · exact .inr h
theorem But.seqL {K : PySem.W.Frag} {H H' : Hp} {a p : Addr} {xs : List V} (e : But p H H') (n : a ≠ p) (h : SqL K H a xs) : SqL K H' a xs := by
  rcases h with (h | ⟨o, h⟩) | h
  · exact .inl (.inl (e _ _ n h))
  · exact .inl (.inr ⟨o, e _ _ n h⟩)
  · exact .inr h
theorem ty_int_inv {K : PySem.W.Frag} {H : Hp} {v : V} (h : TyX K H v (.type "int")) : ∃ i, v = .int i := by
  generalize ht : Value.type "int" = t at h
  cases h with
  | base b => cases b <;> first | exact ⟨_, rfl⟩ | (exfalso; revert ht; simp)
  | _ => exfalso; revert ht; simp
theorem ty_int_val {K : PySem.W.Frag} {H : Hp} {i : Int} {n : String} (h : TyX K H (.int i) (.type n)) : n = "int" := by
  cases h with
  | base b => cases b; rfl
/-- all that was tracked is there; lists may have changed -/
def Keep (H H' : Hp) : Prop := ∀ a o, H a = some o → H' a = some o ∨ ∃ xs ys, o = .lst xs ∧ H' a = some (.lst ys)
theorem Keep.refl (H : Hp) : Keep H H := fun _ _ h => .inl h
theorem Keep.of {H H' : Hp} (s : Same H H') : Keep H H' := fun a o h => .inl (s a o h)
theorem Keep.trans {H H1 H2 : Hp} (a : Keep H H1) (b : Keep H1 H2) : Keep H H2 := fun c o h => by
  rcases a c o h with e | ⟨xs, ys, rfl, e⟩
  · exact b c o e
  · rcases b c _ e with e2 | ⟨us, ws, _, e2⟩
    · exact .inr ⟨xs, ys, rfl, e2⟩
    · exact .inr ⟨xs, ws, rfl, e2⟩
theorem Keep.but {H H' : Hp} {p : Addr} {xs ys : List V} (b : But p H H') (h : H p = some (.lst xs)) (h' : H' p = some (.lst ys)) : Keep H H' := fun a o e => by
  by_cases n : a = p
  · subst n
    rw [h] at e
    cases e
    exact .inr ⟨xs, ys, rfl, h'⟩
  · exact .inl (b a o n e)
theorem Keep.upd {H : Hp} {p : Addr} {xs ys : List V} (h : H p = some (.lst xs)) : Keep H (upd H p (.lst ys)) := Keep.but but_upd h upd_same
theorem Keep.seqT {K : PySem.W.Frag} {H H' : Hp} {a : Addr} {xs : List V} (e : Keep H H') (h : SqT K H a xs) : SqT K H' a xs := by
  rcases h with (h | ⟨o, h⟩) | h
  · rcases e _ _ h with h | ⟨_, _, z, _⟩
    · exact .inl (.inl h)
    · cases z
  · rcases e _ _ h with h | ⟨_, _, z, _⟩
    · exact .inl (.inr ⟨o, h⟩)
    · cases z
  · exact .inr h
theorem Keep.ty {K : PySem.W.Frag} {H H' : Hp} {v : V} {n : String} (e : Keep H H') (h : TyX K H v (.type n)) : TyX K H' v (.type n) := by
  have k : ∀ {a : Addr} {o : HO}, H a = some o → (∀ xs, o ≠ .lst xs) → H' a = some o := fun h n => by
    rcases e _ _ h with h | ⟨xs, _, z, _⟩
    · exact h
    · exact absurd z (n xs)
  generalize ht : Value.type n = t at h
  cases h with
  | base b =>
    cases b with
    | non => exact .base .non
    | bl x => exact .base (.bl x)
    | int i => exact .base (.int i)
    | str x => exact .base (.str x)
    | flt x => exact .base (.flt x)
    | lst h =>
      rcases e _ _ h with h | ⟨_, _, _, h⟩
      · exact .base (.lst h)
      · exact .base (.lst h)
    | frz h => exact .base (.frz (k h fun _ z => by cases z))
    | tup h => exact .base (.tup (k h fun _ z => by cases z))
    | dK h => exact .base (.dK (k h fun _ z => by cases z))
    | dT h => exact .base (.dT (k h fun _ z => by cases z))
    | ins h => cases ht
  | byt b => exact .byt b
  | set h => exact .set (k h fun _ z => by cases z)
  | kList h c => exact .kList h c
  | kTuple h c => exact .kTuple h c
  | kDict h c => exact .kDict h c
  | fTuple h => exact .fTuple (k h fun _ z => by cases z)
  | fDict h => exact .fDict (k h fun _ z => by cases z)
theorem Keep.free {H H' : Hp} (e : Keep H H') {l : Addr} (h : H' l = none) : H l = none := by
  cases q : H l with
  | none => rfl
  | some o =>
    rcases e l o q with z | ⟨_, _, _, z⟩ <;> (rw [h] at z; cases z)
/-- the kinds of things that a law hands in -/
def kinds : List String := ["NoneType", "bool", "int", "str", "list", "tuple", "dict"]
/-! ### products of great ints -/
def CMulX (i j : Int) : Prop := i.natAbs.log2 + j.natAbs.log2 < 100000000
theorem CMulX.ok {i j : Int} (h : CMulX i j) : IntMulOk i j := by
  have b : ∀ x : Int, Builtin.Int.intBits x ≤ x.natAbs.log2 + 1 := fun x => by
    unfold Builtin.Int.intBits
    split <;> omega
  have h1 := b i
  have h2 := b j
  have h3 : i.natAbs.log2 + j.natAbs.log2 < 100000000 := h
  have e : bitsLine = 134217728 := by decide
  unfold IntMulOk
  intro z
  rw [Bool.and_eq_true] at z
  have z2 := z.2
  unfold Builtin.Int.intTooBig at z2
  have z3 := of_decide_eq_true z2
  rw [e] at z3
  omega
theorem op_mulX {X : Cx} : OpR X (binaryOp .Mult) (rI CMulX fun i j => .int (i * j)) := opI fun _ _ _ _ _ _ _ hc q => mul_int q hc.ok
theorem log2_le_of {m n : Nat} (h : m ≤ n) : m.log2 ≤ n.log2 := by
  by_cases h0 : m = 0
  · subst h0
    rw [show Nat.log2 0 = 0 by decide]
    exact Nat.zero_le _
  · exact (Nat.le_log2 (by omega)).mpr (Nat.le_trans (Nat.log2_self_le h0) h)
theorem log2_lt_of {m k : Nat} (h : m < 2 ^ k) (hk : 0 < k) : m.log2 < k := PySem.Flt.log2_lt_of hk h
theorem log2_add (a b : Nat) : (a + b).log2 ≤ max a.log2 b.log2 + 1 := by
  have h1 : a < 2 ^ (a.log2 + 1) := Nat.lt_log2_self
  have h2 : b < 2 ^ (b.log2 + 1) := Nat.lt_log2_self
  have m1 : 2 ^ (a.log2 + 1) ≤ 2 ^ (max a.log2 b.log2 + 1) := Nat.pow_le_pow_right (by decide) (by omega)
  have m2 : 2 ^ (b.log2 + 1) ≤ 2 ^ (max a.log2 b.log2 + 1) := Nat.pow_le_pow_right (by decide) (by omega)
  have h3 : a + b < 2 ^ (max a.log2 b.log2 + 2) := by
    rw [show max a.log2 b.log2 + 2 = (max a.log2 b.log2 + 1) + 1 from rfl, Nat.pow_succ]
    omega
  have := log2_lt_of h3 (by omega)
  omega
theorem log2_addI (a b : Int) : (a + b).natAbs.log2 ≤ max a.natAbs.log2 b.natAbs.log2 + 1 :=
  Nat.le_trans (log2_le_of (by omega)) (log2_add a.natAbs b.natAbs)
theorem bits_log2 {z : Int} {n : Nat} (h : Builtin.Int.intBits z ≤ n) : z.natAbs.log2 ≤ n := by
  unfold Builtin.Int.intBits at h
  split at h
  · rename_i e
    rw [show z.natAbs = 0 by simp_all]
    rw [show Nat.log2 0 = 0 by decide]
    exact Nat.zero_le _
  · omega
/-! ### cuts -/
theorem cut_to (xs : List V) (k : Nat) : cutV xs none (some (k : Int)) = xs.take k := by
  unfold cutV
  rw [HT.sIx_nat, HT.sIx_none, Nat.sub_zero, List.drop_zero]
  rcases Nat.le_total k xs.length with h | h
  · rw [Nat.min_eq_left h]
  · rw [Nat.min_eq_right h, List.take_length, List.take_of_length_le h]
theorem cut_from (xs : List V) (k : Nat) : cutV xs (some (k : Int)) none = xs.drop k := by
  unfold cutV
  rw [HT.sIx_nat, HT.sIx_none]
  rcases Nat.le_total k xs.length with h | h
  · rw [Nat.min_eq_left h, List.take_of_length_le (by rw [List.length_drop]; omega)]
  · rw [Nat.min_eq_right h, List.drop_length, List.drop_eq_nil_of_le h, List.take_nil]
theorem cut_mid (xs : List V) (j k : Nat) : cutV xs (some (j : Int)) (some (k : Int)) = (xs.take k).drop j := by
  unfold cutV
  rw [HT.sIx_nat, HT.sIx_nat]
  rcases Nat.le_total j xs.length with h | h
  · rw [Nat.min_eq_left h, List.drop_take]
    rcases Nat.le_total k xs.length with h' | h'
    · rw [Nat.min_eq_left h']
    · rw [Nat.min_eq_right h', List.take_of_length_le (by rw [List.length_drop]; omega), List.take_of_length_le (by rw [List.length_drop]; omega)]
  · rw [Nat.min_eq_right h, List.drop_length, List.take_nil, List.drop_eq_nil_of_le (by rw [List.length_take]; omega)]
/-! ### the feed: what a law draws from -/
structure FeedAt (H : Hp) (p : Addr) (n : Nat) : Prop where
  ex : ∃ x y c : Int, H p = some (.lst [.int x, .int y, .int c]) ∧ 0 ≤ x ∧ x.natAbs.log2 < 2000000 ∧ 0 ≤ y ∧ y < 10 ^ 40 ∧ 0 ≤ c ∧ c ≤ n
theorem FeedAt.mono {H : Hp} {p : Addr} {n m : Nat} (h : FeedAt H p n) (l : n ≤ m) : FeedAt H p m := by
  obtain ⟨x, y, c, h1, h2, h3, h4, h5, h6, h7⟩ := h.ex
  exact ⟨x, y, c, h1, h2, h3, h4, h5, h6, by omega⟩
theorem FeedAt.keep {H H' : Hp} {p : Addr} {n : Nat} (h : FeedAt H p n) (s : ∀ o, H p = some o → H' p = some o) : FeedAt H' p n := by
  obtain ⟨x, y, c, h1, h2⟩ := h.ex
  exact ⟨x, y, c, s _ h1, h2⟩
theorem FeedAt.ne {H : Hp} {p a : Addr} {n : Nat} (h : FeedAt H p n) (na : H a = none) : a ≠ p := by
  obtain ⟨x, y, c, h1, _⟩ := h.ex
  exact fun z => by rw [z, h1] at na; cases na
theorem FeedAt.new {H : Hp} {p a : Addr} {n : Nat} {o : HO} (h : FeedAt H p n) (na : H a = none) : FeedAt (upd H a o) p n := h.keep fun u e => same_new na _ _ e
theorem FeedAt.same {H H' : Hp} {p : Addr} {n : Nat} (h : FeedAt H p n) (s : Same H H') : FeedAt H' p n := h.keep fun u e => s _ _ e
theorem FeedAt.keeps {H H' : Hp} {p : Addr} {n m : Nat} (h : FeedAt H p n) (b : But p H H') (h' : FeedAt H' p m) : Keep H H' := by
  obtain ⟨x, y, c, h1, _⟩ := h.ex
  obtain ⟨x', y', c', h1', _⟩ := h'.ex
  exact Keep.but b h1 h1'
theorem FeedAt.lst {H : Hp} {p : Addr} {n : Nat} (h : FeedAt H p n) : ∃ ys, H p = some (.lst ys) := by
  obtain ⟨x, y, c, h1, h2⟩ := h.ex
  exact ⟨_, h1⟩
/-! ### the top's facts out of the written part -/
section
variable {P : Program} {w : World} {K : PySem.W.Frag} {mg : Str → Option Value} {base : Heap} {h : Heap} {f : Addr} {st : Stmt} {ps : List Str} {x : Str}
theorem defAt_mk {oc : Value} {od an : Option Addr} {osl : Array (Option Value)} {kV doc pm cdv ct : Value} (X : K.In h) (G : h.Ns mainGlobals mg) (a : PySem.W.nsIn K mainGlobals x = some (some (.ref f)))
    (l : K.lookup f = some ⟨oc, od, .func (PySem.W.fnOf x x (defArgs st) (defBody st) (defScope st) .none kV doc pm an cdv ct), osl⟩) (c : PySem.W.codeIn K cdv x = true) (k : PySem.W.keepIn K (.ref f) = true)
    (hb : ∀ (kV doc pm : Value) (an : Option Addr) (cdv ct : Value) (us : List Value), us.length = ps.length → bindArgs (PySem.W.fnOf x x (defArgs st) (defBody st) (defScope st) .none kV doc pm an cdv ct) ⟨us, []⟩ = pure (ps.zip us)) : DefAt K mg x st ps := by
  have F := fun_mk (st := st) l c k
  exact ⟨f, _, PySem.W.mg_of X G a, F, F.binds hb⟩
theorem defAtD_mk {oc oc' : Value} {od an od' : Option Addr} {osl osl' : Array (Option Value)} {kV doc pm cdv ct : Value} {T : Addr} {its : List Value} {nT : Nat} {dvs : List V} (n : Nat) (hd : dvs ≠ []) (hl : n + dvs.length = ps.length) (X : K.In h) (G : h.Ns mainGlobals mg) (a : PySem.W.nsIn K mainGlobals x = some (some (.ref f)))
    (l : K.lookup f = some ⟨oc, od, .func (PySem.W.fnOf x x (defArgs st) (defBody st) (defScope st) (.ref T) kV doc pm an cdv ct), osl⟩) (c : PySem.W.codeIn K cdv x = true) (k : PySem.W.keepIn K (.ref f) = true)
    (lT : K.lookup T = some ⟨oc', od', .seq its.toArray nT, osl'⟩) (hv : Vals dvs its)
    (hb : ∀ (j : Nat), (j = 0 ∨ j = dvs.length) → ∀ (T : Addr) (kV doc pm : Value) (an : Option Addr) (cdv ct : Value) (us its : List Value), us.length + (dvs.length - j) = ps.length → its.length = dvs.length →
      ∃ k, bindArgs (PySem.W.fnOf x x (defArgs st) (defBody st) (defScope st) (.ref T) kV doc pm an cdv ct) ⟨us, []⟩ = seqItems? (.ref T) >>= k ∧ k (some its.toArray) = pure (ps.zip (us ++ its.drop j))) : DefAtD K mg x st ps dvs := by
  have F : FunD K x x (defArgs st) (defBody st) (defScope st) dvs [] f _ := ⟨⟨oc, od, .ref T, kV, doc, pm, an, cdv, ct, osl, rfl, l, c, .inr ⟨hd, T, _, its, nT, rfl, lT, rfl, hv⟩, .inl rfl⟩, k⟩
  refine ⟨f, _, PySem.W.mg_of X G a, F, ?_, ?_⟩
  · obtain ⟨ds, v, b⟩ := F.binds1 ps.length dvs.length hd (by omega) fun T kV doc pm an cdv ct us its h1 h2 => hb dvs.length (.inr rfl) T kV doc pm an cdv ct us its (by omega) h2
    rw [List.drop_length] at v
    cases v
    exact b
  · obtain ⟨ds, v, b⟩ := F.binds1 n 0 hd (by omega) fun T kV doc pm an cdv ct us its h1 h2 => hb 0 (.inl rfl) T kV doc pm an cdv ct us its (by omega) h2
    exact ⟨ds, v, b⟩
/-- an error of the class at S is what «except S» names -/
theorem exm_self {S : Addr} (h1 : PySem.W.subIn K (.ref S) (.type "BaseException") = some true) (h2 : PySem.W.isClsIn K S = true) (h3 : PySem.W.typeIn K (.ref S) = some (.type "type")) (h4 : PySem.W.subIn K (.ref S) (.ref S) = some true) :
    PySem.W.exmOne K (.ref S) (.ref S) = some true := by
  have e1 : (PySem.W.subIn K (.ref S) (.type "BaseException") == some true) = true := by rw [h1] <;> rfl
  have e2 : ((PySem.W.clsIn K S).isSome && PySem.W.typeIn K (.ref S) == some (.type "type")) = true := by
    have h2' : (PySem.W.clsIn K S).isSome = true := h2
    rw [h2', h3] <;> rfl
  show (if (PySem.W.subIn K (.ref S) (.type "BaseException") == some true) = true then (if ((PySem.W.clsIn K S).isSome && PySem.W.typeIn K (.ref S) == some (.type "type")) = true then PySem.W.subIn K (.ref S) (.ref S) else none) else none) = some true
  rw [if_pos e1, if_pos e2]
  exact h4
theorem excAt_mk {S : Addr} (X : K.In h) (G : h.Ns mainGlobals mg) (a : PySem.W.nsIn K mainGlobals x = some (some (.ref S))) (q : PySem.W.excIn K S [.type "ValueError", .type "Exception", .type "BaseException", .type "object"] "ValueError.__new__" = true) (k : PySem.W.keepIn K (.ref S) = true)
    (b : PySem.W.subIn K (.ref S) (.type "BaseException") = some true) (t : PySem.W.typeIn K (.ref S) = some (.type "type")) (i : PySem.W.isClsIn K S = true) (s : PySem.W.subIn K (.ref S) (.ref S) = some true) : ExcAt K mg x S :=
  ⟨PySem.W.mg_of X G a, q, k, b, t, exm_self b i t s⟩
theorem con_mk {v : V} {u : Value} (X : K.In h) (G : h.Ns mainGlobals mg) (a : PySem.W.nsIn K mainGlobals x = some (some u)) (r : RelV v u) : ∃ u, mg x = some u ∧ RelV v u := ⟨u, PySem.W.mg_of X G a, r⟩
theorem cx_none {H : Hp} {s : Shared} {e : Value} {s' : Shared} (h : L2.CX P w [] H s (fun _ _ _ => False) e s') : False := by
  obtain ⟨_, _, _, _, _, _, _, _, _, _, _, _, z⟩ := h
  exact z.elim
/-- the law's own def -/
theorem law_mk {oc : Value} {od an : Option Addr} {osl : Array (Option Value)} {kV doc pm cdv ct : Value} {fa : Addr} {k : Nat} {sp : Sp} (X : K.In h) (G : h.Ns mainGlobals mg) (hfa : mg "law" = some (.ref fa)) (a : PySem.W.nsIn K mainGlobals "law" = some (some (.ref f)))
    (l : K.lookup f = some ⟨oc, od, .func (PySem.W.fnOf "law" "law" (defArgs st) (defBody st) (defScope st) .none kV doc pm an cdv ct), osl⟩) (c : PySem.W.codeIn K cdv "law" = true) (kp : PySem.W.keepIn K (.ref f) = true)
    (hb : ∀ (s : Shared) (v : Value), BindsTo s (PySem.W.fnOf "law" "law" (defArgs st) (defBody st) (defScope st) .none kV doc pm an cdv ct) ⟨[v], []⟩ [("script", v)])
    (ok : ∀ base : Heap, ∀ fd, Fun K "law" "law" st f fd → FnOk P w K mg base (L2.CX P w) k f fd ["script"] sp) :
    ∃ fd : FuncData, (∀ (s : Shared) (v : Value), BindsTo s fd ⟨[v], []⟩ [("script", v)]) ∧ ∀ base : Heap, K.In base → base.Ns mainGlobals mg → FnOk P w K mg base (L2.CX P w) k fa fd ["script"] sp := by
  have e := hfa.symm.trans (PySem.W.mg_of X G a)
  cases e
  exact ⟨_, hb, fun base _ _ => ok base _ (fun_mk (st := st) l c kp)⟩
end
end EM

namespace EM
open PySem PySem.Spec PyProof.Rows L2
/-! ### shapes: plain -/
/-- the least widths: 1, 2, 3, 5, 8 .. -/
def leastW : Nat → Nat
  | 0 => 1
  | 1 => 2
  | n + 2 => leastW (n + 1) + leastW n
theorem leastW_pos : ∀ n, 0 < leastW n
  | 0 => by decide
  | 1 => by decide
  | n + 2 => by
    have := leastW_pos (n + 1)
    show 0 < leastW (n + 1) + leastW n
    omega
theorem leastW_step : ∀ n, leastW n < leastW (n + 1)
  | 0 => by decide
  | n + 1 => by
    have := leastW_pos n
    show leastW (n + 1) < leastW (n + 1) + leastW n
    omega
theorem leastW_mono {a b : Nat} (h : a ≤ b) : leastW a ≤ leastW b := by
  induction h with
  | refl => exact Nat.le_refl _
  | step _ ih => exact Nat.le_of_lt (Nat.lt_of_le_of_lt ih (leastW_step _))
theorem leastW_lt : ∀ n, n < leastW n
  | 0 => by decide
  | n + 1 => by
    have := leastW_lt n
    have := leastW_step n
    omega
/-- h is the greatest height of a balanced shape of the width w -/
def IsTall (w h : Nat) : Prop := w < leastW (h + 1) ∧ (h = 0 ∨ leastW h ≤ w)
theorem IsTall.le {w h g : Nat} (a : IsTall w h) (b : IsTall w g) : h ≤ g := by
  rcases a.2 with e | e
  · omega
  · refine Nat.le_of_not_lt fun l => ?_
    have := leastW_mono (show g + 1 ≤ h from l)
    have := b.1
    omega
theorem IsTall.uniq {w h g : Nat} (a : IsTall w h) (b : IsTall w g) : h = g := Nat.le_antisymm (a.le b) (b.le a)
theorem IsTall.lt {w h : Nat} (a : IsTall w h) : h ≤ w := by
  rcases a.2 with e | e
  · omega
  · have := leastW_lt h
    omega
/-- things that may be shapes -/
inductive Th where
  | one
  | pair (a b : Th)
  | other
def Th.wid : Th → Nat
  | .one => 1
  | .pair a b => a.wid + b.wid
  | .other => 0
def Th.hgt : Th → Nat
  | .one => 0
  | .pair a b => 1 + max a.hgt b.hgt
  | .other => 0
def Th.sh : Th → Bool
  | .one => true
  | .pair a b => a.sh && b.sh
  | .other => false
/-- abs(x - y), as the built-in tells it -/
def farI (x y : Int) : Int := if x - y < 0 then -(x - y) else x - y
theorem farI_lt {x y : Int} : 1 < farI x y ↔ ¬ (x ≤ y + 1 ∧ y ≤ x + 1) := by
  unfold farI
  split <;> omega
/-- the height of a balanced shape, -1 else -/
def Th.bal : Th → Int
  | .one => 0
  | .pair a b => if min a.bal b.bal < 0 ∨ 1 < farI a.bal b.bal then -1 else 1 + max a.bal b.bal
  | .other => -1
/-- the width to a height m, 0 for what is no shape -/
def Th.win : Th → Nat → Nat
  | .one, _ => 1
  | .pair a b, m + 1 => if a.win m = 0 ∨ b.win m = 0 ∨ 20000 < a.win m + b.win m then 0 else a.win m + b.win m
  | .pair _ _, 0 => 0
  | .other, _ => 0
theorem Th.win_le : ∀ (t : Th) (m : Nat), t.win m ≤ 20000
  | .one, m => by
    cases m <;> (show 1 ≤ 20000; decide)
  | .pair a b, m + 1 => by
    show (if a.win m = 0 ∨ b.win m = 0 ∨ 20000 < a.win m + b.win m then 0 else a.win m + b.win m) ≤ 20000
    split <;> omega
  | .pair _ _, 0 => Nat.zero_le _
  | .other, m => by cases m <;> exact Nat.zero_le _
theorem Th.wid_pos : ∀ (t : Th), t.sh = true → 0 < t.wid
  | .one, _ => by decide
  | .pair a b, h => by
    have h : (a.sh && b.sh) = true := h
    rw [Bool.and_eq_true] at h
    have := a.wid_pos h.1
    show 0 < a.wid + b.wid
    omega
  | .other, h => by cases h
/-- of a shape the function tells the width, of all else 0 -/
theorem Th.win_eq : ∀ (t : Th) (m : Nat), t.win m = if t.sh = true ∧ t.hgt ≤ m ∧ t.wid ≤ 20000 then t.wid else 0
  | .one, m => by cases m <;> rfl
  | .other, m => by cases m <;> rfl
  | .pair a b, 0 => by
    show 0 = _
    rw [if_neg]
    rintro ⟨_, h, _⟩
    have h : 1 + max a.hgt b.hgt ≤ 0 := h
    omega
  | .pair a b, m + 1 => by
    show (if a.win m = 0 ∨ b.win m = 0 ∨ 20000 < a.win m + b.win m then 0 else a.win m + b.win m) = if (a.sh && b.sh) = true ∧ 1 + max a.hgt b.hgt ≤ m + 1 ∧ a.wid + b.wid ≤ 20000 then a.wid + b.wid else 0
    rw [a.win_eq m, b.win_eq m]
    simp only [Bool.and_eq_true]
    by_cases ha : a.sh = true ∧ a.hgt ≤ m ∧ a.wid ≤ 20000
    · by_cases hb : b.sh = true ∧ b.hgt ≤ m ∧ b.wid ≤ 20000
      · have p1 := a.wid_pos ha.1
        have p2 := b.wid_pos hb.1
        rw [if_pos ha, if_pos hb]
        by_cases hw : a.wid + b.wid ≤ 20000
        · rw [if_neg (by omega), if_pos ⟨⟨ha.1, hb.1⟩, by omega, hw⟩]
        · rw [if_pos (by omega), if_neg (fun h => hw h.2.2)]
      · rw [if_neg hb, if_pos (.inr (.inl rfl)), if_neg]
        rintro ⟨⟨_, h1⟩, h2, h3⟩
        exact hb ⟨h1, by omega, by omega⟩
    · rw [if_neg ha, if_pos (.inl rfl), if_neg]
      rintro ⟨⟨h1, _⟩, h2, h3⟩
      exact ha ⟨h1, by omega, by omega⟩
/-- a shape that is balanced -/
def Th.isBal : Th → Bool
  | .one => true
  | .pair a b => a.isBal && b.isBal && decide (a.hgt ≤ b.hgt + 1) && decide (b.hgt ≤ a.hgt + 1)
  | .other => false
theorem Th.bal_eq : ∀ t : Th, t.bal = if t.isBal = true then (t.hgt : Int) else -1
  | .one => rfl
  | .other => rfl
  | .pair a b => by
    show (if min a.bal b.bal < 0 ∨ 1 < farI a.bal b.bal then (-1 : Int) else 1 + max a.bal b.bal) = if (a.isBal && b.isBal && decide (a.hgt ≤ b.hgt + 1) && decide (b.hgt ≤ a.hgt + 1)) = true then ((1 + max a.hgt b.hgt : Nat) : Int) else -1
    rw [a.bal_eq, b.bal_eq]
    simp only [Bool.and_eq_true, decide_eq_true_eq, farI_lt]
    by_cases ha : a.isBal = true
    · by_cases hb : b.isBal = true
      · simp only [ha, hb, if_true, true_and]
        by_cases hd : a.hgt ≤ b.hgt + 1 ∧ b.hgt ≤ a.hgt + 1
        · have h1 : ¬ (min (a.hgt : Int) b.hgt < 0 ∨ ¬ ((a.hgt : Int) ≤ b.hgt + 1 ∧ (b.hgt : Int) ≤ a.hgt + 1)) := by omega
          rw [if_neg h1, if_pos hd]
          omega
        · have h1 : (min (a.hgt : Int) b.hgt < 0 ∨ ¬ ((a.hgt : Int) ≤ b.hgt + 1 ∧ (b.hgt : Int) ≤ a.hgt + 1)) := by omega
          rw [if_pos h1, if_neg hd]
      · rw [if_neg (show ¬ (((a.isBal = true ∧ b.isBal = true) ∧ a.hgt ≤ b.hgt + 1) ∧ b.hgt ≤ a.hgt + 1) from fun h => hb h.1.1.2), if_neg hb]
        exact if_pos (.inl (by omega))
    · rw [if_neg (show ¬ (((a.isBal = true ∧ b.isBal = true) ∧ a.hgt ≤ b.hgt + 1) ∧ b.hgt ≤ a.hgt + 1) from fun h => ha h.1.1.1), if_neg ha]
      exact if_pos (.inl (by split <;> omega))
theorem Th.bal_sh : ∀ t : Th, t.isBal = true → t.sh = true
  | .one, _ => rfl
  | .other, h => by cases h
  | .pair a b, h => by
    have h : (a.isBal && b.isBal && decide (a.hgt ≤ b.hgt + 1) && decide (b.hgt ≤ a.hgt + 1)) = true := h
    simp only [Bool.and_eq_true] at h
    show (a.sh && b.sh) = true
    rw [a.bal_sh h.1.1.1, b.bal_sh h.1.1.2]
    rfl
theorem Th.least_wid : ∀ t : Th, t.isBal = true → leastW t.hgt ≤ t.wid
  | .one, _ => by decide
  | .other, h => by cases h
  | .pair a b, h => by
    have h : (a.isBal && b.isBal && decide (a.hgt ≤ b.hgt + 1) && decide (b.hgt ≤ a.hgt + 1)) = true := h
    simp only [Bool.and_eq_true, decide_eq_true_eq] at h
    have ha := a.least_wid h.1.1.1
    have hb := b.least_wid h.1.1.2
    show leastW (1 + max a.hgt b.hgt) ≤ a.wid + b.wid
    have key : ∀ m, leastW (1 + m) ≤ leastW m + leastW (m - 1) := fun m => by
      cases m with
      | zero => decide
      | succ n =>
        rw [Nat.add_comm 1 (n + 1)]
        exact Nat.le_refl _
    rcases Nat.le_total a.hgt b.hgt with l | l
    · rw [Nat.max_eq_right l]
      have := key b.hgt
      have := leastW_mono (show b.hgt - 1 ≤ a.hgt by omega)
      omega
    · rw [Nat.max_eq_left l]
      have := key a.hgt
      have := leastW_mono (show a.hgt - 1 ≤ b.hgt by omega)
      omega
/-! ### what stands for a thing -/
inductive RepTh (K : PySem.W.Frag) (H : Hp) : V → Th → Prop where
  | one : RepTh K H .non .one
  | pair {a : Addr} {v1 v2 : V} {t1 t2 : Th} : SqT K H a [v1, v2] → RepTh K H v1 t1 → RepTh K H v2 t2 → RepTh K H (.ref a) (.pair t1 t2)
  | other {v : V} {n : String} : TyX K H v (.type n) → n ∈ kinds → v ≠ .non → (n = "tuple" → ∃ a xs, v = .ref a ∧ SqT K H a xs ∧ xs.length ≠ 2) → RepTh K H v .other
theorem RepTh.keep {K : PySem.W.Frag} {H H' : Hp} {v : V} {t : Th} (e : Keep H H') (r : RepTh K H v t) : RepTh K H' v t := by
  induction r with
  | one => exact .one
  | pair h _ _ i1 i2 => exact .pair (e.seqT h) i1 i2
  | other h1 h2 h3 h4 =>
    refine .other (e.ty h1) h2 h3 fun z => ?_
    obtain ⟨a, xs, e1, e2, e3⟩ := h4 z
    exact ⟨a, xs, e1, e.seqT e2, e3⟩

def topS (i : Nat) : Stmt := PySem.Challenge.pw_everymatch_k60_tallest_by_least_widths.main.body.getD i (.Pass ⟨0, 0, 0, 0⟩)
abbrev s_is_integer : Stmt := topS 6
abbrev nm_is_integer : List Str := ["thing"]
theorem sc_is_integer : FnScope nm_is_integer ["thing"] (defScope s_is_integer) := ⟨rfl, rfl, rfl, by decide +kernel, rfl, by decide +kernel, by decide +kernel⟩
abbrev s_need_count : Stmt := topS 7
abbrev nm_need_count : List Str := ["thing", "most"]
theorem sc_need_count : FnScope nm_need_count ["thing", "most"] (defScope s_need_count) := ⟨rfl, rfl, rfl, by decide +kernel, rfl, by decide +kernel, by decide +kernel⟩
abbrev s_tallest_of : Stmt := topS 10
abbrev nm_tallest_of : List Str := ["width", "height", "least", "more"]
theorem sc_tallest_of : FnScope nm_tallest_of ["width"] (defScope s_tallest_of) := ⟨rfl, rfl, rfl, by decide +kernel, rfl, by decide +kernel, by decide +kernel⟩
abbrev s_width_in : Stmt := topS 11
abbrev nm_width_in : List Str := ["thing", "most", "left", "right"]
theorem sc_width_in : FnScope nm_width_in ["thing", "most"] (defScope s_width_in) := ⟨rfl, rfl, rfl, by decide +kernel, rfl, by decide +kernel, by decide +kernel⟩
abbrev s_height_in : Stmt := topS 12
abbrev nm_height_in : List Str := ["shape"]
theorem sc_height_in : FnScope nm_height_in ["shape"] (defScope s_height_in) := ⟨rfl, rfl, rfl, by decide +kernel, rfl, by decide +kernel, by decide +kernel⟩
abbrev s_balanced_height : Stmt := topS 13
abbrev nm_balanced_height : List Str := ["shape", "left", "right"]
theorem sc_balanced_height : FnScope nm_balanced_height ["shape"] (defScope s_balanced_height) := ⟨rfl, rfl, rfl, by decide +kernel, rfl, by decide +kernel, by decide +kernel⟩
abbrev s_need_shape : Stmt := topS 15
abbrev nm_need_shape : List Str := ["shape", "width"]
theorem sc_need_shape : FnScope nm_need_shape ["shape"] (defScope s_need_shape) := ⟨rfl, rfl, rfl, by decide +kernel, rfl, by decide +kernel, by decide +kernel⟩
abbrev s_is_balanced : Stmt := topS 16
abbrev nm_is_balanced : List Str := ["shape"]
theorem sc_is_balanced : FnScope nm_is_balanced ["shape"] (defScope s_is_balanced) := ⟨rfl, rfl, rfl, by decide +kernel, rfl, by decide +kernel, by decide +kernel⟩
abbrev s_width_of : Stmt := topS 17
abbrev nm_width_of : List Str := ["shape"]
theorem sc_width_of : FnScope nm_width_of ["shape"] (defScope s_width_of) := ⟨rfl, rfl, rfl, by decide +kernel, rfl, by decide +kernel, by decide +kernel⟩
abbrev s_height_of : Stmt := topS 18
abbrev nm_height_of : List Str := ["shape"]
theorem sc_height_of : FnScope nm_height_of ["shape"] (defScope s_height_of) := ⟨rfl, rfl, rfl, by decide +kernel, rfl, by decide +kernel, by decide +kernel⟩
abbrev s_tallest : Stmt := topS 19
abbrev nm_tallest : List Str := ["width"]
theorem sc_tallest : FnScope nm_tallest ["width"] (defScope s_tallest) := ⟨rfl, rfl, rfl, by decide +kernel, rfl, by decide +kernel, by decide +kernel⟩
abbrev s__law_feed : Stmt := topS 21
abbrev nm__law_feed : List Str := ["script", "k", "cell"]
theorem sc__law_feed : FnScope nm__law_feed ["script", "k"] (defScope s__law_feed) := ⟨rfl, rfl, rfl, by decide +kernel, rfl, by decide +kernel, by decide +kernel⟩
abbrev s__law_draw : Stmt := topS 22
abbrev nm__law_draw : List Str := ["feed", "many", "rest", "got", "stir"]
theorem sc__law_draw : FnScope nm__law_draw ["feed", "many"] (defScope s__law_draw) := ⟨rfl, rfl, rfl, by decide +kernel, rfl, by decide +kernel, by decide +kernel⟩
abbrev s__law_one : Stmt := topS 23
abbrev nm__law_one : List Str := ["feed", "things"]
theorem sc__law_one : FnScope nm__law_one ["feed", "things"] (defScope s__law_one) := ⟨rfl, rfl, rfl, by decide +kernel, rfl, by decide +kernel, by decide +kernel⟩
abbrev s__law_least : Stmt := topS 24
abbrev nm__law_least : List Str := ["height", "least", "more", "turn"]
theorem sc__law_least : FnScope nm__law_least ["height"] (defScope s__law_least) := ⟨rfl, rfl, rfl, by decide +kernel, rfl, by decide +kernel, by decide +kernel⟩
abbrev s__law_tallest : Stmt := topS 25
abbrev nm__law_tallest : List Str := ["width", "height"]
theorem sc__law_tallest : FnScope nm__law_tallest ["width"] (defScope s__law_tallest) := ⟨rfl, rfl, rfl, by decide +kernel, rfl, by decide +kernel, by decide +kernel⟩
abbrev s__law_balanced : Stmt := topS 26
abbrev nm__law_balanced : List Str := ["feed", "width", "height", "ways", "left", "right", "low", "high", "first"]
theorem sc__law_balanced : FnScope nm__law_balanced ["feed", "width", "height"] (defScope s__law_balanced) := ⟨rfl, rfl, rfl, by decide +kernel, rfl, by decide +kernel, by decide +kernel⟩
abbrev s__law_width : Stmt := topS 27
abbrev nm__law_width : List Str := ["feed", "way"]
theorem sc__law_width : FnScope nm__law_width ["feed"] (defScope s__law_width) := ⟨rfl, rfl, rfl, by decide +kernel, rfl, by decide +kernel, by decide +kernel⟩
abbrev s__law_refused : Stmt := topS 28
abbrev nm__law_refused : List Str := ["thing", "got"]
theorem sc__law_refused : FnScope nm__law_refused ["thing"] (defScope s__law_refused) := ⟨rfl, rfl, rfl, by decide +kernel, rfl, by decide +kernel, by decide +kernel⟩
abbrev s__law_is_integer : Stmt := topS 29
abbrev nm__law_is_integer : List Str := ["found", "due"]
theorem sc__law_is_integer : FnScope nm__law_is_integer ["found", "due"] (defScope s__law_is_integer) := ⟨rfl, rfl, rfl, by decide +kernel, rfl, by decide +kernel, by decide +kernel⟩
abbrev s_law : Stmt := topS 30
abbrev nm_law : List Str := ["script", "k", "feed", "width", "few", "far", "thing", "shape"]
theorem sc_law : FnScope nm_law ["script"] (defScope s_law) := ⟨rfl, rfl, rfl, by decide +kernel, rfl, by decide +kernel, by decide +kernel⟩
structure Top (K : PySem.W.Frag) (mg : Str → Option Value) (cMatchError cBadShape cBadCount : Addr) : Prop where
  d_is_integer : DefAt K mg "is_integer" s_is_integer ["thing"]
  d_need_count : DefAtD K mg "need_count" s_need_count ["thing", "most"] [.non]
  d_tallest_of : DefAt K mg "tallest_of" s_tallest_of ["width"]
  d_width_in : DefAt K mg "width_in" s_width_in ["thing", "most"]
  d_height_in : DefAt K mg "height_in" s_height_in ["shape"]
  d_balanced_height : DefAt K mg "balanced_height" s_balanced_height ["shape"]
  d_need_shape : DefAt K mg "need_shape" s_need_shape ["shape"]
  d_is_balanced : DefAt K mg "is_balanced" s_is_balanced ["shape"]
  d_width_of : DefAt K mg "width_of" s_width_of ["shape"]
  d_height_of : DefAt K mg "height_of" s_height_of ["shape"]
  d_tallest : DefAt K mg "tallest" s_tallest ["width"]
  d__law_feed : DefAt K mg "_law_feed" s__law_feed ["script", "k"]
  d__law_draw : DefAt K mg "_law_draw" s__law_draw ["feed", "many"]
  d__law_one : DefAt K mg "_law_one" s__law_one ["feed", "things"]
  d__law_least : DefAt K mg "_law_least" s__law_least ["height"]
  d__law_tallest : DefAt K mg "_law_tallest" s__law_tallest ["width"]
  d__law_balanced : DefAt K mg "_law_balanced" s__law_balanced ["feed", "width", "height"]
  d__law_width : DefAt K mg "_law_width" s__law_width ["feed"]
  d__law_refused : DefAt K mg "_law_refused" s__law_refused ["thing"]
  d__law_is_integer : DefAt K mg "_law_is_integer" s__law_is_integer ["found", "due"]
  n_ValueError : mg "ValueError" = none
  n_abs : mg "abs" = none
  n_bool : mg "bool" = none
  n_int : mg "int" = none
  n_isinstance : mg "isinstance" = none
  n_len : mg "len" = none
  n_max : mg "max" = none
  n_min : mg "min" = none
  n_range : mg "range" = none
  n_sum : mg "sum" = none
  n_tuple : mg "tuple" = none
  v_MOST_NODES : ∃ u, mg "MOST_NODES" = some u ∧ RelV (.int 20000) u
  v_MOST_HEIGHT : ∃ u, mg "MOST_HEIGHT" = some u ∧ RelV (.int 40) u
  e_MatchError : ExcAt K mg "MatchError" cMatchError
  e_BadShape : ExcAt K mg "BadShape" cBadShape
  e_BadCount : ExcAt K mg "BadCount" cBadCount
section
variable {P : Program} {w : World} {K : PySem.W.Frag} {mg : Str → Option Value} {base : Heap} {cMatchError cBadShape cBadCount : Addr}
def spFeed (K : PySem.W.Frag) : Sp := fun vs H Q _ => ∃ (a : Addr) (ns : List Int) (k : Int), vs = [.ref a, .int k] ∧ SqL K H a (ns.map V.int) ∧ (∀ z ∈ ns, z.natAbs.log2 ≤ 1048576) ∧ 0 ≤ k ∧ k ≤ 1000 ∧
  ∀ H' p, Same H H' → H p = none → FeedAt H' p 0 → Q (.ref p) H'
theorem ok__law_feed (T : Top K mg cMatchError cBadShape cBadCount) : Cl P w K mg base 1 "_law_feed" ["script", "k"] (spFeed K) := by
  refine T.d__law_feed.ok sc__law_feed (fun vs H Q E h => ?_) (fun f cdv A outer s H vs Q E hr h => ?_)
  · obtain ⟨a, ns, k, rfl, _⟩ := h
    rfl
  · refine ⟨_, (pss_cons (ps_set (i := 2) sc__law_feed.nd rfl (.inl rfl) (pe_op op_add (pe_op op_mul pe_int (pv 1)) (pe_callB (cr_sum rfl) (by rfl) T.n_sum (by decide +kernel) (pa_cons (pe_slice sl_list (pv 0) po_none (po_some pe_int)) pa_nil))))
      (C8.pss_cut (ps_if (pt_cmpR op_lt (pv 1) (pe_callB call_len_seq (by rfl) T.n_len (by decide +kernel) (pa_cons (pv 0) pa_nil)) (nomark _)) (pss_one (ps_set (i := 2) sc__law_feed.nd rfl (.inl rfl) (pe_ix ix_list (pv 0) (pv 1) (fun _ _ => rfl)))) pss_nil)
      (pss_one (ps_ret (pe_lst (pa_cons (pe_callB (call_max2 rfl) (by rfl) T.n_max (by decide +kernel) (pa_cons pe_int (pa_cons (pe_op op_sub (pv 2) (pe_op op_pow pe_int pe_int)) pa_nil))) (pa_cons (pe_op op_mod (pe_callTy call_int1 (by rfl) T.n_int (by decide +kernel) (pa_cons (pe_op op_add (pe_op op_mul (pv 2) pe_int) (pe_op op_mul pe_int (pv 1))) pa_nil)) (pe_op op_add (pe_op op_pow pe_int pe_int) pe_int)) (pa_cons pe_int pa_nil)))))))), ?_⟩
    obtain ⟨a, ns, k, rfl, hS, hb, k0, k1, q⟩ := h
    refine ⟨_, rfl, _, _, rfl, rfl, .inl ⟨by decide, by decide⟩, _, rfl, 1, rfl, a, ns.map V.int, rfl, hS, fun p np => ?_⟩
    have s1 : Same H (upd H p (.lst (cutV (ns.map V.int) none (some 1)))) := same_new np
    refine ⟨p, ns.take 1, rfl, sqL_of (by rw [upd_same, show (some 1 : Option Int) = some ((1 : Nat) : Int) from rfl, cut_to, List.map_take]), _, _, rfl, rfl, ?_⟩
    have c0 : (977 * k + (ns.take 1).sum).natAbs.log2 ≤ 1050000 := by
      have h1 := log2_addI (977 * k) (ns.take 1).sum
      have h2 : (977 * k).natAbs.log2 < 32 := log2_lt_of (by omega) (by decide)
      have h3 : (ns.take 1).sum.natAbs.log2 ≤ 1048576 := by
        cases ns with
        | nil => show Nat.log2 0 ≤ _; decide
        | cons z r =>
          have : ((z :: r).take 1).sum = z := by
            show z + 0 = z
            omega
          rw [this]
          exact hb z List.mem_cons_self
      omega
    refine ⟨fun σ' H' => H' = upd H p (.lst (cutV (ns.map V.int) none (some 1))) ∧ ∃ cell : Int, σ' = [some (.ref a), some (.int k), some (.int cell)] ∧ cell.natAbs.log2 ≤ 1050000, ?_, ?_⟩
    · refine ⟨_, rfl, _, rfl, a, ns.map V.int, rfl, .inl (s1.seq hS), _, _, rfl, rfl, _, rfl, ?_⟩
      refine ite2 (fun e => ?_) (fun e => ?_)
      · have e1 : k < ((ns.map V.int).length : Int) := of_decide_eq_true e
        rw [List.length_map] at e1
        obtain ⟨j, rfl⟩ : ∃ j : Nat, k = j := ⟨k.toNat, by omega⟩
        have hj : j < ns.length := by omega
        refine ⟨_, rfl, _, rfl, a, _, _, _, rfl, rfl, s1.seq hS, atI_nat (j := j) (by rw [List.getElem?_map, List.getElem?_eq_getElem hj]; rfl), ?_⟩
        exact ⟨rfl, ns[j], rfl, Nat.le_trans (hb _ (List.getElem_mem hj)) (by decide)⟩
      · exact ⟨rfl, _, rfl, c0⟩
    · rintro σ' H' ⟨rfl, cell, rfl, cb⟩
      refine ⟨_, rfl, _, _, rfl, rfl, ⟨by decide, by decide, by decide⟩, _, _, rfl, rfl, _, _, rfl, ?_⟩
      refine ⟨_, rfl, _, _, rfl, rfl, .inr ⟨by decide, by decide⟩, _, rfl, _, _, rfl, rfl, .inl ⟨by decide, by decide⟩, _, _, rfl, rfl, .inl ⟨_, rfl, ?_⟩⟩
      refine ⟨_, _, rfl, rfl, ⟨by decide, by decide, by decide⟩, _, _, rfl, rfl, _, _, rfl, rfl, (by show (0 : Int) < 10 ^ Int.toNat 39 + 23; decide), ?_⟩
      refine ⟨by show 3 ≤ sizeLine; decide, fun l nl => ?_⟩
      refine q _ l (s1.trans (same_new nl)) (s1.free nl) ⟨_, _, 0, upd_same, ?_, ?_, Int.emod_nonneg _ (by decide), Int.lt_of_lt_of_le (Int.emod_lt_of_pos _ (by decide)) (by decide), Int.le_refl 0, Int.le_refl 0⟩
      · show 0 ≤ (if cell - 10 ^ Int.toNat 18 > 0 then cell - 10 ^ Int.toNat 18 else 0)
        split <;> omega
      · show (if cell - 10 ^ Int.toNat 18 > 0 then cell - 10 ^ Int.toNat 18 else 0).natAbs.log2 < 2000000
        split
        · rename_i e
          have : (cell - 10 ^ Int.toNat 18).natAbs.log2 ≤ cell.natAbs.log2 := log2_le_of (by
            have : (0 : Int) ≤ 10 ^ Int.toNat 18 := by decide
            omega)
          omega
        · show Nat.log2 0 < _
          decide
end

section
variable {P : Program} {w : World} {K : PySem.W.Frag} {mg : Str → Option Value} {base : Heap} {cMatchError cBadShape cBadCount : Addr}
def spDraw : Sp := fun vs H Q _ => ∃ p n many, vs = [.ref p, .int many] ∧ FeedAt H p n ∧ n ≤ 1000000000 ∧ 0 < many ∧ many < 10 ^ 100 ∧
  ∀ H' g, But p H H' → FeedAt H' p (n + 1) → 0 ≤ g → g < many → Q (.int g) H'
theorem ok__law_draw (T : Top K mg cMatchError cBadShape cBadCount) : Cl P w K mg base 1 "_law_draw" ["feed", "many"] spDraw := by
  refine T.d__law_draw.ok sc__law_draw (fun vs H Q E h => ?_) (fun f cdv A outer s H vs Q E hr h => ?_)
  · obtain ⟨p, n, m, rfl, _⟩ := h
    rfl
  · refine ⟨_, (pss_cons (ps_if (pt_cmpR op_gt (pe_ix ix_list (pv 0) pe_int (fun _ _ => rfl)) pe_int (nomark _)) (pss_cons (ps_set (i := 2) sc__law_draw.nd rfl (.inl rfl) (pe_op op_fdivW (pe_ix ix_list (pv 0) pe_int (fun _ _ => rfl)) (pv 1)))
      (pss_cons (ps_set (i := 3) sc__law_draw.nd rfl (.inl rfl) (pe_op op_sub (pe_ix ix_list (pv 0) pe_int (fun _ _ => rfl)) (pe_op op_mulX (pv 2) (pv 1))))
      (pss_cons (ps_asg (pv 2) (pg_sub (pv 0) pe_int set_list))
      (pss_one (ps_ret (pv 3)))))) pss_nil)
      (pss_cons (ps_asg (pe_op op_add (pe_ix ix_list (pv 0) pe_int (fun _ _ => rfl)) pe_int) (pg_sub (pv 0) pe_int set_list))
      (pss_cons (ps_set (i := 4) sc__law_draw.nd rfl (.inl rfl) (pe_op op_add (pe_ix ix_list (pv 0) pe_int (fun _ _ => rfl)) (pe_op op_mul pe_int (pe_ix ix_list (pv 0) pe_int (fun _ _ => rfl)))))
      (pss_cons (ps_set (i := 4) sc__law_draw.nd rfl (.inl rfl) (pe_op op_mod (pe_callTy call_int1 (by rfl) T.n_int (by decide +kernel) (pa_cons (pe_op op_add (pe_op op_mulX (pe_op op_mulX (pv 4) (pv 4)) (pv 4)) (pe_op op_mul pe_int (pe_ix ix_list (pv 0) pe_int (fun _ _ => rfl)))) pa_nil)) (pe_op op_add (pe_op op_pow pe_int pe_int) pe_int)))
      (pss_cons (ps_set (i := 4) sc__law_draw.nd rfl (.inl rfl) (pe_op op_mod (pe_callTy call_int1 (by rfl) T.n_int (by decide +kernel) (pa_cons (pe_op op_add (pe_op op_mulX (pv 4) (pv 4)) pe_int) pa_nil)) (pe_op op_add (pe_op op_pow pe_int pe_int) pe_int)))
      (pss_one (ps_ret (pe_op op_mod (pe_callTy call_int1 (by rfl) T.n_int (by decide +kernel) (pa_cons (pe_op op_fdivW (pv 4) (pe_op op_pow pe_int pe_int)) pa_nil)) (pv 1))))))))), ?_⟩
    obtain ⟨p, n, many, rfl, F, hn, m0, m1, q⟩ := h
    obtain ⟨x, y, c, h1, x0, xb, y0, y1, c0, c1⟩ := F.ex
    have p400 : ∀ a b : Nat, a < 2 ^ 200 → b < 2 ^ 200 → a * b < 2 ^ (200 + 200) := fun a b h1 h2 => by rw [Nat.pow_add]; exact Nat.mul_lt_mul'' h1 h2
    have mb : many.natAbs.log2 < 400 := log2_lt_of (Nat.lt_of_lt_of_le (by omega : many.natAbs < 10 ^ 100) (by decide)) (by decide)
    refine ⟨_, rfl, p, _, _, _, rfl, rfl, sqL_of h1, atI_nat (j := 0) rfl, _, _, rfl, rfl, _, rfl, ?_⟩
    have ax : ∀ {v : V} {i : Nat}, [V.int x, .int y, .int c][i]? = some v → atI [V.int x, .int y, .int c] (i : Int) = some v := fun h => atI_nat h
    have dm : ∀ z : Int, 0 ≤ z % many ∧ z % many < many := fun z => ⟨Int.emod_nonneg _ (by omega), Int.emod_lt_of_pos _ m0⟩
    refine ite2 (fun e => ?_) (fun e => ?_)
    · have r0 : 0 ≤ x / many := Int.ediv_nonneg x0 (by omega)
      have r1 : x / many ≤ x := Int.ediv_le_self _ x0
      have rb : (x / many).natAbs.log2 < 2000000 := Nat.lt_of_le_of_lt (log2_le_of (by omega)) xb
      have dd : x - x / many * many = x % many := by
        rw [Int.emod_def, Int.mul_comm]
      refine ⟨_, rfl, p, _, _, _, rfl, rfl, sqL_of h1, ax (i := 0) rfl, _, rfl, _, _, rfl, rfl, ⟨m0, by omega⟩, ?_⟩
      refine ⟨_, rfl, p, _, _, _, rfl, rfl, sqL_of h1, ax (i := 0) rfl, _, rfl, _, rfl, _, _, rfl, rfl, by unfold CMulX; omega, _, _, rfl, rfl, ?_⟩
      refine ⟨_, rfl, _, rfl, p, _, _, 0, rfl, rfl, h1, rfl, ?_⟩
      refine ⟨_, rfl, ?_⟩
      show Q (V.int (x - x / many * many)) _
      rw [dd]
      exact q _ _ but_upd ⟨_, _, _, upd_same, r0, rb, y0, y1, c0, by omega⟩ (dm _).1 (dm _).2
    · refine ⟨_, rfl, p, _, _, _, rfl, rfl, sqL_of h1, ax (i := 2) rfl, _, _, rfl, rfl, ?_⟩
      refine ⟨_, rfl, p, _, _, 2, rfl, rfl, h1, rfl, ?_⟩
      have h2 : upd H p (.lst [.int x, .int y, .int (c + 1)]) p = some (.lst [.int x, .int y, .int (c + 1)]) := upd_same
      have ax2 : ∀ {v : V} {i : Nat}, [V.int x, .int y, .int (c + 1)][i]? = some v → atI [V.int x, .int y, .int (c + 1)] (i : Int) = some v := fun h => atI_nat h
      have s0 : (y + 6700417 * (c + 1)).natAbs < 2 ^ 200 := by
        have : (10 : Int) ^ 40 + 6700417 * 1000000001 < 2 ^ 200 := by decide
        omega
      have sb := log2_lt_of s0 (by decide)
      refine ⟨_, rfl, p, _, _, _, rfl, rfl, sqL_of h2, ax2 (i := 1) rfl, _, rfl, p, _, _, _, rfl, rfl, sqL_of h2, ax2 (i := 2) rfl, _, _, rfl, rfl, .inl ⟨by decide, by decide⟩, _, _, rfl, rfl, ?_⟩
      obtain ⟨z, hz⟩ : ∃ z, z = y + 6700417 * (c + 1) := ⟨_, rfl⟩
      rw [← hz] at s0 sb
      have sb2 : (z * z).natAbs.log2 < 200 + 200 := log2_lt_of (by rw [Int.natAbs_mul]; exact p400 _ _ s0 s0) (by decide)
      have m1' : CMulX z z := by unfold CMulX; omega
      have m2' : CMulX (z * z) z := by unfold CMulX; omega
      refine ⟨_, rfl, _, rfl, _, _, rfl, rfl, by rw [hz] at m1'; exact m1', _, rfl, _, _, rfl, rfl, by rw [hz] at m2'; exact m2', _, rfl, p, _, _, _, rfl, rfl, sqL_of h2, ax2 (i := 2) rfl, _, _, rfl, rfl, .inl ⟨by decide, by decide⟩, _, _, rfl, rfl, .inl ⟨_, rfl, ?_⟩⟩
      refine ⟨_, _, rfl, rfl, ⟨by decide, by decide, by decide⟩, _, _, rfl, rfl, _, _, rfl, rfl, (by show (0 : Int) < 10 ^ Int.toNat 43 + 57; decide), ?_⟩
      obtain ⟨u, hu⟩ : ∃ u, u = (z * z * z + 15485863 * (c + 1)) % (10 ^ 43 + 57) := ⟨_, rfl⟩
      have u0 : u.natAbs < 2 ^ 150 := by
        have h1 : 0 ≤ u := by rw [hu]; exact Int.emod_nonneg _ (by decide)
        have h2 : u < 10 ^ 43 + 57 := by rw [hu]; exact Int.emod_lt_of_pos _ (by decide)
        have : (10 : Int) ^ 43 + 57 < 2 ^ 150 := by decide
        omega
      have ub := log2_lt_of u0 (by decide)
      have m3 : CMulX u u := by unfold CMulX; omega
      rw [hu, hz] at m3
      refine ⟨_, rfl, _, rfl, _, _, rfl, rfl, m3, _, _, rfl, rfl, .inl ⟨_, rfl, ?_⟩⟩
      refine ⟨_, _, rfl, rfl, ⟨by decide, by decide, by decide⟩, _, _, rfl, rfl, _, _, rfl, rfl, (by show (0 : Int) < 10 ^ Int.toNat 38 + 133; decide), ?_⟩
      refine ⟨_, rfl, _, _, rfl, rfl, ⟨by decide, by decide, by decide⟩, _, _, rfl, rfl, ⟨by decide, by decide⟩, .inl ⟨_, rfl, ?_⟩⟩
      refine ⟨_, rfl, _, _, rfl, rfl, m0, ?_⟩
      exact q _ _ but_upd ⟨_, _, _, upd_same, x0, xb, y0, y1, by omega, by omega⟩ (dm _).1 (dm _).2
end

section
variable {P : Program} {w : World} {K : PySem.W.Frag} {mg : Str → Option Value} {base : Heap} {cMatchError cBadShape cBadCount : Addr}
/-- one of the things -/
def spOne (K : PySem.W.Frag) : Sp := fun vs H Q _ => ∃ p n a xs, vs = [.ref p, .ref a] ∧ FeedAt H p n ∧ n ≤ 1000000000 ∧ SqL K H a xs ∧ a ≠ p ∧ 0 < xs.length ∧ xs.length < 100000 ∧
  ∀ H' x (g : Nat), But p H H' → FeedAt H' p (n + 1) → xs[g]? = some x → Q x H'
theorem ok__law_one (T : Top K mg cMatchError cBadShape cBadCount) : Cl P w K mg base 2 "_law_one" ["feed", "things"] (spOne K) := by
  have c__law_draw := ok__law_draw (P := P) (w := w) (base := base) T
  refine T.d__law_one.ok sc__law_one (fun vs H Q E h => ?_) (fun f cdv A outer s H vs Q E hr h => ?_)
  · obtain ⟨p, n, a, xs, rfl, _⟩ := h
    rfl
  · refine ⟨_, (pss_one (ps_ret (pe_ix ix_list (pv 1) (pcN c__law_draw hr (by decide) (pa_cons (pv 0) (pa_cons (pe_callB call_len_seq (by rfl) T.n_len (by decide +kernel) (pa_cons (pv 1) pa_nil)) pa_nil))) (fun _ _ => rfl)))), ?_⟩
    obtain ⟨p, n, a, xs, rfl, F, hn, hS, ne, l0, l1, q⟩ := h
    refine ⟨_, rfl, _, rfl, _, rfl, a, xs, rfl, .inl hS, p, n, xs.length, rfl, F, hn, by omega, by omega, fun H' g b F' g0 g1 => ?_⟩
    obtain ⟨j, rfl⟩ : ∃ j : Nat, g = j := ⟨g.toNat, by omega⟩
    have hj : j < xs.length := by omega
    exact ⟨a, xs, _, _, rfl, rfl, b.seqL ne hS, atI_nat (j := j) (List.getElem?_eq_getElem hj), q _ _ j b F' (List.getElem?_eq_getElem hj)⟩
end

section
variable {P : Program} {w : World} {K : PySem.W.Frag} {mg : Str → Option Value} {base : Heap} {cMatchError cBadShape cBadCount : Addr}
def spLeast : Sp := fun vs H Q _ => ∃ h : Nat, vs = [.int h] ∧ h < 100000 ∧ ∀ H', Same H H' → Q (.int (leastW h)) H'
theorem ok__law_least (T : Top K mg cMatchError cBadShape cBadCount) : Cl P w K mg base 1 "_law_least" ["height"] spLeast := by
  refine T.d__law_least.ok sc__law_least (fun vs H Q E h => ?_) (fun f cdv A outer s H vs Q E hr h => ?_)
  · obtain ⟨v, rfl, _⟩ := h
    rfl
  · refine ⟨_, (pss_cons (ps_asg (pe_tup (pa_cons pe_int (pa_cons pe_int pa_nil))) (pg_tup rfl (pgs_cons (pg_name (i := 1) sc__law_least.nd rfl (.inl rfl)) (pgs_cons (pg_name (i := 2) sc__law_least.nd rfl (.inl rfl)) pgs_nil))))
      (pss_cons (ps_for (passes_of rfl) rfl (pi_range1 (by rfl) T.n_range (pa_cons (pv 0) pa_nil)) (pg_name (i := 3) sc__law_least.nd rfl (.inl rfl)) (pss_one (ps_par (i := 1) (j := 2) (by rfl) sc__law_least.nd rfl rfl (by decide) rfl rfl (pa_cons (pv 2) (pa_cons (pe_op op_add (pv 1) (pv 2)) pa_nil)) (by rfl))))
      (pss_one (ps_ret (pv 1))))), ?_⟩
    obtain ⟨h, rfl, hb, q⟩ := h
    refine ⟨by show 2 ≤ sizeLine; decide, fun p np => ⟨p, _, rfl, sqT_of upd_same, rfl, _, _, rfl, _, _, rfl, rfl, ?_⟩⟩
    refine ⟨_, rfl, (h : Int), rfl, by omega, by omega, for_range (lo := 0) (n := (h : Int).toNat) (fun i σ H' => Same H H' ∧ ∃ x, σ = [some (.int h), some (.int (leastW i)), some (.int (leastW (i + 1))), x]) ⟨same_new np, _, rfl⟩ ?_ ?_⟩
    · rintro i σ H' hi ⟨sm, x, rfl⟩
      refine ⟨_, rfl, _, rfl, _, rfl, _, _, rfl, rfl, _, _, rfl, sm, some (.int (0 + (i : Int))), ?_⟩
      have e : ((leastW i : Int) + leastW (i + 1)) = ((leastW (i + 1 + 1) : Nat) : Int) := by
        show _ = ((leastW (i + 1) + leastW i : Nat) : Int)
        omega
      exact congrArg (fun z => [some (V.int h), some (V.int (leastW (i + 1))), some (V.int z), some (.int (0 + (i : Int)))]) e
    · rintro σ H' ⟨sm, x, rfl⟩
      exact ⟨_, rfl, q _ sm⟩
end

section
variable {P : Program} {w : World} {K : PySem.W.Frag} {mg : Str → Option Value} {base : Heap} {cMatchError cBadShape cBadCount : Addr}
def spLWidth : Sp := fun vs H Q _ => ∃ p n, vs = [.ref p] ∧ FeedAt H p n ∧ n ≤ 1000 ∧
  ∀ H' (wd : Nat), But p H H' → FeedAt H' p (n + 3) → wd ≤ 20000 → Q (.int wd) H'
theorem ok__law_width (T : Top K mg cMatchError cBadShape cBadCount) : Cl P w K mg base 3 "_law_width" ["feed"] spLWidth := by
  have c__law_draw := ok__law_draw (P := P) (w := w) (base := base) T
  have c__law_one := ok__law_one (P := P) (w := w) (base := base) T
  have c__law_least := ok__law_least (P := P) (w := w) (base := base) T
  refine T.d__law_width.ok sc__law_width (fun vs H Q E h => ?_) (fun f cdv A outer s H vs Q E hr h => ?_)
  · obtain ⟨p, n, rfl, _⟩ := h
    rfl
  · refine ⟨_, (pss_cons (ps_set (i := 1) sc__law_width.nd rfl (.inl rfl) (pcN c__law_draw hr (by decide) (pa_cons (pv 0) (pa_cons pe_int pa_nil))))
      (pss_cons (ps_if (pt_cmpR op_eq (pv 1) pe_int (nomark _)) (pss_one (ps_ret (pcN c__law_one hr (by decide) (pa_cons (pv 0) (pa_cons (pe_lst (pa_cons pe_int (pa_cons pe_int (pa_cons pe_int (pa_cons pe_int (pa_cons pe_int (pa_cons pe_int (pa_cons pe_int pa_nil)))))))) pa_nil))))) pss_nil)
      (pss_cons (ps_if (pt_cmpR op_eq (pv 1) pe_int (nomark _)) (pss_one (ps_ret (pcN c__law_draw hr (by decide) (pa_cons (pv 0) (pa_cons pe_int pa_nil))))) pss_nil)
      (pss_one (ps_ret (pe_op op_sub (pe_op op_add (pcN c__law_least hr (by decide) (pa_cons (pcN c__law_draw hr (by decide) (pa_cons (pv 0) (pa_cons pe_int pa_nil))) pa_nil)) (pcN c__law_draw hr (by decide) (pa_cons (pv 0) (pa_cons pe_int pa_nil)))) pe_int)))))), ?_⟩
    obtain ⟨p, n, rfl, F, hn, q⟩ := h
    refine ⟨_, rfl, p, n, 4, rfl, F, by omega, by decide, by decide, fun H1 g b1 F1 g0 g1 => ?_⟩
    refine ⟨_, rfl, rfl, _, rfl, ite2 (fun e => ?_) (fun e => ?_)⟩
    · refine ⟨_, rfl, by show 7 ≤ sizeLine; decide, fun a na => ?_⟩
      refine ⟨p, n + 1, a, _, rfl, F1.new na, by omega, sqL_of upd_same, F1.ne na, by decide, by decide, fun H2 x g b2 F2 hx => ?_⟩
      have b : But p H H2 := (b1.trans (But.of (same_new na))).trans b2
      have fin : ∀ wd : Nat, wd ≤ 20000 → Q (.int wd) H2 := fun wd hw => q H2 wd b (F2.mono (by omega)) hw
      match g, hx with
      | 0, hx => cases hx; exact fin 0 (by decide)
      | 1, hx => cases hx; exact fin 1 (by decide)
      | 2, hx => cases hx; exact fin 2 (by decide)
      | 3, hx => cases hx; exact fin 3 (by decide)
      | 4, hx => cases hx; exact fin 4 (by decide)
      | 5, hx => cases hx; exact fin 19999 (by decide)
      | 6, hx => cases hx; exact fin 20000 (by decide)
      | n + 7, hx => cases hx
    · refine ⟨_, rfl, rfl, _, rfl, ite2 (fun e => ?_) (fun e => ?_)⟩
      · refine ⟨_, rfl, p, n + 1, 20001, rfl, F1, by omega, by decide, by decide, fun H2 g2 b2 F2 g20 g21 => ?_⟩
        obtain ⟨j, rfl⟩ : ∃ j : Nat, g2 = j := ⟨g2.toNat, by omega⟩
        exact q H2 j (b1.trans b2) (F2.mono (by omega)) (by omega)
      · refine ⟨_, rfl, p, n + 1, 21, rfl, F1, by omega, by decide, by decide, fun H2 g2 b2 F2 g20 g21 => ?_⟩
        obtain ⟨j, rfl⟩ : ∃ j : Nat, g2 = j := ⟨g2.toNat, by omega⟩
        refine ⟨j, rfl, by omega, fun H3 s3 => ?_⟩
        refine ⟨_, rfl, p, n + 1 + 1, 3, rfl, F2.same s3, by omega, by decide, by decide, fun H4 g4 b4 F4 g40 g41 => ?_⟩
        refine ⟨_, _, rfl, rfl, _, _, rfl, rfl, ?_⟩
        have l1 := leastW_pos j
        have l2 : leastW j ≤ leastW 20 := leastW_mono (by omega)
        have l3 : leastW 20 = 17711 := by decide +kernel
        have e : ((leastW j : Int) + g4 - 1) = ((leastW j + g4.toNat - 1 : Nat) : Int) := by omega
        show Q (.int ((leastW j : Int) + g4 - 1)) H4
        rw [e]
        exact q H4 _ ((b1.trans b2).trans ((But.of s3).trans b4)) F4 (by omega)
end

section
variable {P : Program} {w : World} {K : PySem.W.Frag} {mg : Str → Option Value} {base : Heap} {cMatchError cBadShape cBadCount : Addr}
def spLTallest : Sp := fun vs H Q _ => ∃ wd : Nat, vs = [.int wd] ∧ wd ≤ 20000 ∧ ∀ h H', IsTall wd h → Same H H' → Q (.int (h : Nat)) H'
theorem ok__law_tallest (T : Top K mg cMatchError cBadShape cBadCount) : Cl P w K mg base 2 "_law_tallest" ["width"] spLTallest := by
  have c__law_least := ok__law_least (P := P) (w := w) (base := base) T
  refine T.d__law_tallest.ok sc__law_tallest (fun vs H Q E h => ?_) (fun f cdv A outer s H vs Q E hr h => ?_)
  · obtain ⟨v, rfl, _⟩ := h
    rfl
  · refine ⟨_, (pss_cons (ps_set (i := 1) sc__law_tallest.nd rfl (.inl rfl) pe_int)
      (pss_cons (ps_while (passes_of rfl) (pt_cmpR op_le (pcN c__law_least hr (by decide) (pa_cons (pe_op op_add (pv 1) pe_int) pa_nil)) (pv 0) (nomark _)) (pss_one (ps_set (i := 1) sc__law_tallest.nd rfl (.inl rfl) (pe_op op_add (pv 1) pe_int))))
      (pss_one (ps_ret (pv 1))))), ?_⟩
    obtain ⟨wd, rfl, hb, q⟩ := h
    refine ⟨fun m σ H' => Same H H' ∧ ∃ h : Nat, σ = [some (.int wd), some (.int h)] ∧ (h = 0 ∨ leastW h ≤ wd) ∧ m + h = wd, ⟨wd, Same.refl _, 0, rfl, .inl rfl, rfl⟩, ?_⟩
    rintro m σ H' ⟨sm, h, rfl, h1, h2⟩
    refine ⟨_, rfl, _, _, rfl, rfl, h + 1, by rfl, by omega, fun H2 s2 => ?_⟩
    refine ⟨_, rfl, _, _, rfl, rfl, _, rfl, ite2 (fun e => ?_) (fun e => ?_)⟩
    · have e1 : (leastW (h + 1) : Int) ≤ wd := of_decide_eq_true e
      have := leastW_lt (h + 1)
      refine ⟨_, fun _ _ z => z, ?_⟩
      exact ⟨_, rfl, _, _, rfl, rfl, m - 1, by omega, sm.trans s2, h + 1, rfl, .inr (by omega), by omega⟩
    · have e1 : ¬ (leastW (h + 1) : Int) ≤ wd := fun z => e (decide_eq_true z)
      exact ⟨_, rfl, q h _ ⟨by omega, h1⟩ (sm.trans s2)⟩
end

section
variable {P : Program} {w : World} {K : PySem.W.Frag} {mg : Str → Option Value} {base : Heap} {cMatchError cBadShape cBadCount : Addr}
/-- found is the integer j (due, an integer) -/
def spLInt (K : PySem.W.Frag) : Sp := fun vs H Q _ => ∃ i j : Int, vs = [.int i, .int j] ∧ Q (.bl (decide (i = j))) H
theorem ok__law_is_integer (T : Top K mg cMatchError cBadShape cBadCount) : Cl P w K mg base 1 "_law_is_integer" ["found", "due"] (spLInt K) := by
  refine T.d__law_is_integer.ok sc__law_is_integer (fun vs H Q E h => ?_) (fun f cdv A outer s H vs Q E hr h => ?_)
  · obtain ⟨i, j, rfl, _⟩ := h
    rfl
  · refine ⟨_, (pss_one (ps_ret (pe_and (pe_callB call_isi (by rfl) T.n_isinstance (by decide +kernel) (pa_cons (pv 0) (pa_cons (pe_bltn (v := .ty "int") (by rfl) T.n_int (by decide +kernel) rfl) pa_nil))) (pe_and (pe_not (pe_callB call_isi (by rfl) T.n_isinstance (by decide +kernel) (pa_cons (pv 0) (pa_cons (pe_bltn (v := .ty "bool") (by rfl) T.n_bool (by decide +kernel) rfl) pa_nil)))) (pe_one (pe_cmpR op_eq (pv 0) (pv 1) (nomark _))))))), ?_⟩
    obtain ⟨i, j, rfl, q⟩ := h
    refine ⟨_, rfl, _, _, _, _, _, rfl, .ty "int", ty_int i, kit_ty (r := true) (by decide +kernel), _, rfl, iteT ?_⟩
    refine ⟨_, rfl, _, _, _, _, _, rfl, .ty "bool", ty_int i, kit_ty (r := false) (by decide +kernel), _, rfl, _, rfl, iteT ?_⟩
    refine ⟨_, rfl, _, rfl, rfl, ?_⟩
    have e : decide (V.int i = V.int j) = decide (i = j) := by
      by_cases h : i = j
      · rw [h, decide_eq_true rfl, decide_eq_true rfl]
      · rw [decide_eq_false h, decide_eq_false (fun z => h (V.int.inj z))]
    rw [e]
    exact q
end

section
variable {P : Program} {w : World} {K : PySem.W.Frag} {mg : Str → Option Value} {base : Heap} {cMatchError cBadShape cBadCount : Addr}
def spIsInteger (K : PySem.W.Frag) : Sp := fun vs H Q _ => ∃ v n, vs = [v] ∧ TyX K H v (.type n) ∧ n ∈ kinds ∧ Q (.bl (n == "int")) H
theorem ok_is_integer (T : Top K mg cMatchError cBadShape cBadCount) : Cl P w K mg base 1 "is_integer" ["thing"] (spIsInteger K) := by
  refine T.d_is_integer.ok sc_is_integer (fun vs H Q E h => ?_) (fun f cdv A outer s H vs Q E hr h => ?_)
  · obtain ⟨v, n, rfl, _⟩ := h
    rfl
  · refine ⟨_, (pss_one (ps_ret (pe_and (pe_callB call_isi (by rfl) T.n_isinstance (by decide +kernel) (pa_cons (pv 0) (pa_cons (pe_bltn (v := .ty "int") (by rfl) T.n_int (by decide +kernel) rfl) pa_nil))) (pe_one (pe_not (pe_callB call_isi (by rfl) T.n_isinstance (by decide +kernel) (pa_cons (pv 0) (pa_cons (pe_bltn (v := .ty "bool") (by rfl) T.n_bool (by decide +kernel) rfl) pa_nil)))))))), ?_⟩
    obtain ⟨v, n, rfl, ty, hn, q⟩ := h
    have k1 : PySem.W.kitOne K (.type n) (.type "int") = some (n == "int" || n == "bool") := by
      simp only [kinds, List.mem_cons, List.not_mem_nil, or_false] at hn
      rcases hn with rfl | rfl | rfl | rfl | rfl | rfl | rfl <;> exact kit_ty (by decide +kernel)
    have k2 : PySem.W.kitOne K (.type n) (.type "bool") = some (n == "bool") := by
      simp only [kinds, List.mem_cons, List.not_mem_nil, or_false] at hn
      rcases hn with rfl | rfl | rfl | rfl | rfl | rfl | rfl <;> exact kit_ty (by decide +kernel)
    refine ⟨_, rfl, _, _, _, _, _, rfl, .ty "int", ty, k1, _, rfl, ite2 (fun e => ?_) (fun e => ?_)⟩
    · refine ⟨_, rfl, _, _, _, _, _, rfl, .ty "bool", ty, k2, _, rfl, ?_⟩
      have e2 : (!(n == "bool")) = (n == "int") := by
        revert e
        simp only [kinds, List.mem_cons, List.not_mem_nil, or_false] at hn
        rcases hn with rfl | rfl | rfl | rfl | rfl | rfl | rfl <;> decide
      rw [e2]
      exact q
    · have e2 : (n == "int") = false := by
        revert e
        simp only [kinds, List.mem_cons, List.not_mem_nil, or_false] at hn
        rcases hn with rfl | rfl | rfl | rfl | rfl | rfl | rfl <;> decide
      rw [e2] at q
      exact q
end

section
variable {P : Program} {w : World} {K : PySem.W.Frag} {mg : Str → Option Value} {base : Heap} {cMatchError cBadShape cBadCount : Addr}
def spNeedCount (K : PySem.W.Frag) (C : Addr) : Sp := fun vs H Q E => ∃ v m n, vs = [v, .int m] ∧ TyX K H v (.type n) ∧ n ∈ kinds ∧
  ((∃ i, v = .int i ∧ 0 ≤ i ∧ i ≤ m) → Q .non H) ∧ ((¬ ∃ i, v = .int i ∧ 0 ≤ i ∧ i ≤ m) → E (.ref C) none H)
theorem ok_need_count (T : Top K mg cMatchError cBadShape cBadCount) : Cl P w K mg base 2 "need_count" ["thing", "most"] (spNeedCount K cBadCount) := by
  have c_is_integer := ok_is_integer (P := P) (w := w) (base := base) T
  refine T.d_need_count.ok sc_need_count (fun vs H Q E h => ?_) (fun f cdv A outer s H vs Q E hr h => ?_)
  · obtain ⟨v, m, n, rfl, _⟩ := h
    rfl
  · refine ⟨_, (pss_cons (ps_if (PW.pt (pw_or (pt_not (pt_val (pcN c_is_integer hr (by decide) (pa_cons (pv 0) pa_nil)))) (pw_or1 (pt_cmpR op_lt (pv 0) pe_int (nomark _))))) (pss_one (ps_raise rfl (takes_of rfl rfl rfl rfl) (pmk_own PySem.F.excBase_ValueError T.e_BadCount.x T.e_BadCount.g T.e_BadCount.k (raises_own T.e_BadCount.b T.e_BadCount.t) (by rfl)))) pss_nil)
      (pss_one (ps_if (PW.pt (pw_and (pt_cmpR op_notN (pv 1) pe_non (nomark _)) (pw_and1 (pt_cmpR op_gt (pv 0) (pv 1) (nomark _))))) (pss_one (ps_raise rfl (takes_of rfl rfl rfl rfl) (pmk_own PySem.F.excBase_ValueError T.e_BadCount.x T.e_BadCount.g T.e_BadCount.k (raises_own T.e_BadCount.b T.e_BadCount.t) (by rfl)))) pss_nil))), ?_⟩
    obtain ⟨v, m, n, rfl, ty, hn, qy, qn⟩ := h
    refine ⟨_, rfl, v, n, rfl, ty, hn, _, rfl, ?_⟩
    by_cases hi : n = "int"
    · subst hi
      obtain ⟨i, rfl⟩ : ∃ i, v = .int i := ty_int_inv ty
      refine ⟨_, rfl, _, _, rfl, rfl, _, rfl, ?_⟩
      refine ite2 (fun e => ?_) (fun e => ?_)
      · have e1 : i < 0 := of_decide_eq_true e
        refine qn ?_
        rintro ⟨j, hj, h1, h2⟩
        cases hj
        omega
      · have e1 : ¬ i < 0 := fun h => e (decide_eq_true h)
        refine ⟨_, rfl, rfl, _, rfl, ?_⟩
        refine ⟨_, rfl, _, rfl, _, _, rfl, rfl, _, rfl, ?_⟩
        refine ite2 (fun e => ?_) (fun e => ?_)
        · have e2 : m < i := of_decide_eq_true e
          refine qn ?_
          rintro ⟨j, hj, h1, h2⟩
          cases hj
          omega
        · have e2 : ¬ m < i := fun h => e (decide_eq_true h)
          exact qy ⟨i, rfl, by omega, by omega⟩
    · have hb : (n == "int") = false := by simpa using hi
      rw [hb]
      refine qn ?_
      rintro ⟨j, rfl, _⟩
      exact hi (ty_int_val ty)
end

section
variable {P : Program} {w : World} {K : PySem.W.Frag} {mg : Str → Option Value} {base : Heap} {cMatchError cBadShape cBadCount : Addr}
def spTallestOf : Sp := fun vs H Q _ => ∃ w : Nat, vs = [.int w] ∧ ∀ (h : Nat) (H' : Hp), IsTall w h → Same H H' → Q (.int h) H'
theorem ok_tallest_of (T : Top K mg cMatchError cBadShape cBadCount) : Cl P w K mg base 1 "tallest_of" ["width"] spTallestOf := by
  refine T.d_tallest_of.ok sc_tallest_of (fun vs H Q E h => ?_) (fun f cdv A outer s H vs Q E hr h => ?_)
  · obtain ⟨n, rfl, _⟩ := h
    rfl
  · refine ⟨_, (pss_cons (ps_asg (pe_tup (pa_cons pe_int (pa_cons pe_int (pa_cons pe_int pa_nil)))) (pg_tup rfl (pgs_cons (pg_name (i := 1) sc_tallest_of.nd rfl (.inl rfl)) (pgs_cons (pg_name (i := 2) sc_tallest_of.nd rfl (.inl rfl)) (pgs_cons (pg_name (i := 3) sc_tallest_of.nd rfl (.inl rfl)) pgs_nil)))))
      (pss_cons (ps_while (passes_of rfl) (pt_cmpR op_le (pv 3) (pv 0) (nomark _)) (pss_one (ps_par3 (i := 1) (j := 2) (l := 3) (by rfl) sc_tallest_of.nd rfl rfl rfl (by decide) (by decide) (by decide) rfl rfl rfl (pa_cons (pe_op op_add (pv 1) pe_int) (pa_cons (pv 3) (pa_cons (pe_op op_add (pv 2) (pv 3)) pa_nil))) (by rfl))))
      (pss_one (ps_ret (pv 1))))), ?_⟩
    obtain ⟨n, rfl, q⟩ := h
    refine ⟨by show 3 ≤ sizeLine; decide, fun p np => ⟨p, _, rfl, sqT_of upd_same, rfl, _, _, rfl, _, _, rfl, _, _, rfl, rfl, ?_⟩⟩
    refine ⟨fun m σ H' => Same H H' ∧ ∃ h : Nat, σ = [some (.int n), some (.int h), some (.int (leastW h)), some (.int (leastW (h + 1)))] ∧ (h = 0 ∨ leastW h ≤ n) ∧ m + h = n, ⟨n, same_new np, 0, rfl, .inl rfl, rfl⟩, ?_⟩
    rintro m σ H' ⟨sm, h, rfl, h1, h2⟩
    refine ⟨_, rfl, _, rfl, _, _, rfl, rfl, _, rfl, ite2 (fun e => ?_) (fun e => ?_)⟩
    · have e1 : (leastW (h + 1) : Int) ≤ n := of_decide_eq_true e
      have e2 : leastW (h + 1) ≤ n := by omega
      have := leastW_lt (h + 1)
      refine ⟨_, fun _ _ z => z, ?_⟩
      refine ⟨_, rfl, _, _, rfl, rfl, _, rfl, _, rfl, _, rfl, _, _, rfl, rfl, _, _, _, rfl, ?_⟩
      refine ⟨m - 1, by omega, sm, h + 1, ?_, .inr e2, by omega⟩
      show [some (V.int n), some (V.int ((h : Int) + 1)), some (V.int (leastW (h + 1))), some (V.int ((leastW h : Int) + leastW (h + 1)))] = _
      rw [show ((leastW h : Int) + leastW (h + 1)) = ((leastW (h + 1 + 1) : Nat) : Int) by
        show _ = ((leastW (h + 1) + leastW h : Nat) : Int)
        omega]
      rfl
    · have e1 : ¬ (leastW (h + 1) : Int) ≤ n := fun z => e (decide_eq_true z)
      exact ⟨_, rfl, q h _ ⟨by omega, h1⟩ sm⟩
end

section
variable {P : Program} {w : World} {K : PySem.W.Frag} {mg : Str → Option Value} {base : Heap} {cMatchError cBadShape cBadCount : Addr}
def spTallest (K : PySem.W.Frag) (C : Addr) : Sp := fun vs H Q E => ∃ v n, vs = [v] ∧ TyX K H v (.type n) ∧ n ∈ kinds ∧
  (∀ (wd : Nat) (h : Nat) (H' : Hp), v = .int wd → wd ≤ 20000 → IsTall wd h → Same H H' → Q (.int h) H') ∧ ((¬ ∃ i : Int, v = .int i ∧ 0 ≤ i ∧ i ≤ 20000) → E (.ref C) none H)
theorem ok_tallest (T : Top K mg cMatchError cBadShape cBadCount) : Cl P w K mg base 3 "tallest" ["width"] (spTallest K cBadCount) := by
  have c_need_count := ok_need_count (P := P) (w := w) (base := base) T
  have c_tallest_of := ok_tallest_of (P := P) (w := w) (base := base) T
  refine T.d_tallest.ok sc_tallest (fun vs H Q E h => ?_) (fun f cdv A outer s H vs Q E hr h => ?_)
  · obtain ⟨v, n, rfl, _⟩ := h
    rfl
  · refine ⟨_, (pss_cons (ps_expr (pcT c_need_count hr (by decide) (takes_of rfl rfl rfl rfl) (pa_cons (pv 0) (pa_cons (C8.pe_gc (by rfl) T.v_MOST_NODES) pa_nil))))
      (pss_one (ps_ret (pcN c_tallest_of hr (by decide) (pa_cons (pv 0) pa_nil))))), ?_⟩
    obtain ⟨v, n, rfl, ty, hn, qy, qn⟩ := h
    refine ⟨_, rfl, v, 20000, n, rfl, ty, hn, ?_, qn⟩
    rintro ⟨i, rfl, h1, h2⟩
    obtain ⟨j, rfl⟩ : ∃ j : Nat, i = j := ⟨i.toNat, by omega⟩
    exact ⟨_, rfl, j, rfl, fun h H' t sm => qy j h H' rfl (by omega) t sm⟩
end

section
variable {P : Program} {w : World} {K : PySem.W.Frag} {mg : Str → Option Value} {base : Heap} {cMatchError cBadShape cBadCount : Addr}
def spLRefused (K : PySem.W.Frag) : Sp := fun vs H Q _ => ∃ v n, vs = [v] ∧ TyX K H v (.type n) ∧ n ∈ kinds ∧ (¬ ∃ i : Int, v = .int i ∧ 0 ≤ i ∧ i ≤ 20000) ∧ Q (.bl true) H
theorem ok__law_refused (T : Top K mg cMatchError cBadShape cBadCount) : Cl P w K mg base 4 "_law_refused" ["thing"] (spLRefused K) := by
  have c_tallest := ok_tallest (P := P) (w := w) (base := base) T
  refine T.d__law_refused.ok sc__law_refused (fun vs H Q E h => ?_) (fun f cdv A outer s H vs Q E hr h => ?_)
  · obtain ⟨v, n, rfl, _⟩ := h
    rfl
  · refine ⟨_, (pss_cons (ps_set (i := 1) sc__law_refused.nd rfl (.inl rfl) pe_bl)
      (pss_cons (ps_try_only (c := .ref cBadCount)  rfl rfl ⟨rfl, by decide, .inl T.e_BadCount.g⟩ takes0 (fun W pn xe tk po => (pss_one (ps_expr (pcS c_tallest hr (by decide) tk (pa_cons (pv 0) pa_nil))))) (fun a oe cls d pn _ _ => (pss_one (ps_set (i := 1) sc__law_refused.nd rfl (.inl rfl) pe_bl))))
      (pss_one (ps_ret (pv 1))))), ?_⟩
    obtain ⟨v, n, rfl, ty, hn, hv, q⟩ := h
    refine ⟨_, rfl, v, n, rfl, ty, hn, ?_, fun _ => ?_⟩
    · rintro wd h H' rfl hw _ _
      exact (hv ⟨wd, rfl, by omega, by omega⟩).elim
    · exact ⟨true, T.e_BadCount.m, fun _ a _ => ⟨_, rfl, q⟩, fun z => by cases z⟩
end

section
variable {P : Program} {w : World} {K : PySem.W.Frag} {mg : Str → Option Value} {base : Heap} {cMatchError cBadShape cBadCount : Addr}
theorem leastW_two : ∀ h, leastW h ≤ 2 ^ h
  | 0 => by decide
  | 1 => by decide
  | h + 2 => by
    have h1 := leastW_two h
    have h2 := leastW_two (h + 1)
    have e : leastW (h + 2) = leastW (h + 1) + leastW h := rfl
    rw [e, Nat.pow_succ]
    rw [Nat.pow_succ] at h2 ⊢
    omega
theorem leastW_three : ∀ h, 2 * leastW (h + 1) ≤ 3 * 2 ^ h + 1
  | 0 => by decide
  | 1 => by decide
  | h + 2 => by
    have h1 := leastW_three h
    have h2 := leastW_three (h + 1)
    have e : leastW (h + 2 + 1) = leastW (h + 1 + 1) + leastW (h + 1) := rfl
    have p : 1 ≤ 2 ^ h := Nat.one_le_two_pow
    have e2 : 2 ^ (h + 2) = 4 * 2 ^ h := by rw [Nat.pow_add, Nat.mul_comm]
    have e1 : 2 ^ (h + 1) = 2 * 2 ^ h := by rw [Nat.pow_succ, Nat.mul_comm]
    rw [e, e2]
    rw [e1] at h2
    omega
/-- how many draws a balanced shape takes -/
def balCost : Nat → Nat
  | 0 => 0
  | h + 1 => 2 + 2 * balCost h
theorem balCost_mono {a b : Nat} (h : a ≤ b) : balCost a ≤ balCost b := by
  induction h with
  | refl => exact Nat.le_refl _
  | step _ ih => exact Nat.le_trans ih (by show _ ≤ 2 + 2 * balCost _; omega)
/-- heights of two sides of a height h -/
def Ways (h : Nat) (l r : Nat) : Prop := (l + 1 = h ∧ r + 1 = h) ∨ (l + 1 = h ∧ r + 2 = h) ∨ (l + 2 = h ∧ r + 1 = h)
/-- a width that fits them -/
def Fits (wd l r : Nat) : Prop := leastW l + leastW r ≤ wd ∧ wd ≤ 2 ^ l + 2 ^ r
theorem fits_one {h wd : Nat} (h0 : 0 < h) (h1 : leastW h ≤ wd) (h2 : wd ≤ 2 ^ h) : Fits wd (h - 1) (h - 1) ∨ (2 ≤ h ∧ Fits wd (h - 1) (h - 2)) := by
  obtain ⟨g, rfl⟩ : ∃ g, h = g + 1 := ⟨h - 1, by omega⟩
  rw [Nat.pow_succ] at h2
  cases g with
  | zero =>
    left
    have : leastW (0 + 1) = 2 := rfl
    have : leastW (0 + 1 - 1) = 1 := rfl
    exact ⟨by omega, by show wd ≤ 1 + 1; omega⟩
  | succ g =>
    show Fits wd (g + 1) (g + 1) ∨ (2 ≤ g + 1 + 1 ∧ Fits wd (g + 1) g)
    by_cases c : wd ≤ 2 ^ (g + 1) + 2 ^ g
    · exact .inr ⟨by omega, h1, c⟩
    · have := leastW_three g
      have e1 : 2 ^ (g + 1) = 2 * 2 ^ g := by rw [Nat.pow_succ, Nat.mul_comm]
      refine .inl ⟨by omega, by omega⟩
/-- what stands in the list of ways -/
def WayOk (H : Hp) (h wd : Nat) (x : V) : Prop := ∃ a l r, ∃ lo hi : Int, x = .ref a ∧ H a = some (.tup [.int (l : Nat), .int (r : Nat), .int lo, .int hi]) ∧ Ways h l r ∧ (leastW l : Int) ≤ lo ∧ (wd : Int) - 2 ^ r ≤ lo ∧ lo ≤ hi ∧ hi ≤ 2 ^ l ∧ hi ≤ wd - leastW r
theorem WayOk.same {H H' : Hp} {h wd : Nat} {x : V} (w : WayOk H h wd x) (s : ∀ a xs, H a = some (.tup xs) → H' a = some (.tup xs)) : WayOk H' h wd x := by
  obtain ⟨a, l, r, lo, hi, e1, e2, e3⟩ := w
  exact ⟨a, l, r, lo, hi, e1, s _ _ e2, e3⟩
/-- the three pairs of heights that are tried -/
def wayI (h : Nat) (i : Nat) (l r : Int) : Prop := (i = 0 ∧ l = h - 1 ∧ r = h - 1) ∨ (i = 1 ∧ l = h - 1 ∧ r = h - 2) ∨ (i = 2 ∧ l = h - 2 ∧ r = h - 1)
theorem pow_cast (r : Nat) : (1 * 2 ^ (Int.toNat (r : Int)) : Int) = ((2 ^ r : Nat) : Int) := by
  rw [Int.toNat_natCast, Int.one_mul, Int.natCast_pow]
  rfl
structure BalInv (H5 : Hp) (p wy : Addr) (wd h : Nat) (i : Nat) (σ : L2.St) (H' : Hp) : Prop where
  ex : ∃ x4 x5 x6 x7 ws, σ = [some (.ref p), some (.int wd), some (.int h), some (.ref wy), x4, x5, x6, x7, none] ∧ But wy H5 H' ∧ H' wy = some (.lst ws) ∧ (∀ x ∈ ws, WayOk H' h wd x) ∧ ws.length ≤ i ∧
    (∀ j l r, j < i → wayI h j (l : Nat) (r : Nat) → Fits wd l r → ws ≠ [])
def spLBal (K : PySem.W.Frag) (n : Nat) : Sp := fun vs H Q _ => ∃ p, ∃ m wd h : Nat, vs = [.ref p, .int wd, .int h] ∧ FeedAt H p m ∧ m ≤ 500000 ∧ h < n ∧ m + balCost h ≤ 500000 ∧ h ≤ 20 ∧ leastW h ≤ wd ∧ wd ≤ 2 ^ h ∧
  ∀ H' v t, But p H H' → FeedAt H' p (m + balCost h) → RepTh K H' v t → t.wid = wd → t.hgt = h → t.isBal = true → Q v H'
theorem ok__law_balanced (T : Top K mg cMatchError cBadShape cBadCount) : ∀ n, Cl P w K mg base (n + 3) "_law_balanced" ["feed", "width", "height"] (spLBal K n)
  | 0 => by
    exact T.d__law_balanced.never fun vs H Q E h => by
      obtain ⟨_, _, _, _, _, _, _, z, _⟩ := h
      cases z
  | n + 1 => by
    have ih := ok__law_balanced T n
    have c__law_draw := ok__law_draw (P := P) (w := w) (base := base) T
    have c__law_one := ok__law_one (P := P) (w := w) (base := base) T
    have c__law_least := ok__law_least (P := P) (w := w) (base := base) T
    refine T.d__law_balanced.ok sc__law_balanced (fun vs H Q E h => ?_) (fun f cdv A outer s H vs Q E hr h => ?_)
    · obtain ⟨_, _, _, _, rfl, _⟩ := h
      rfl
    · refine ⟨_, (pss_cons (ps_if (pt_cmpR op_eq (pv 2) pe_int (nomark _)) (pss_one (ps_ret pe_non)) pss_nil)
      (pss_cons (ps_set (i := 3) sc__law_balanced.nd rfl (.inl rfl) (pe_lst pa_nil))
      (pss_cons (ps_for (passes_of rfl) rfl (pi_list (pe_lst (pa_cons (pe_tup (pa_cons (pe_op op_sub (pv 2) pe_int) (pa_cons (pe_op op_sub (pv 2) pe_int) pa_nil))) (pa_cons (pe_tup (pa_cons (pe_op op_sub (pv 2) pe_int) (pa_cons (pe_op op_sub (pv 2) pe_int) pa_nil))) (pa_cons (pe_tup (pa_cons (pe_op op_sub (pv 2) pe_int) (pa_cons (pe_op op_sub (pv 2) pe_int) pa_nil))) pa_nil))))) (pg_tup rfl (pgs_cons (pg_name (i := 4) sc__law_balanced.nd rfl (.inl rfl)) (pgs_cons (pg_name (i := 5) sc__law_balanced.nd rfl (.inl rfl)) pgs_nil))) (pss_one (ps_if (pt_cmpR op_ge (pe_callB (call_min2 rfl) (by rfl) T.n_min (by decide +kernel) (pa_cons (pv 4) (pa_cons (pv 5) pa_nil))) pe_int (nomark _)) (pss_cons (ps_set (i := 6) sc__law_balanced.nd rfl (.inl rfl) (pe_callB (call_max2 rfl) (by rfl) T.n_max (by decide +kernel) (pa_cons (pcN c__law_least hr (by omega) (pa_cons (pv 4) pa_nil)) (pa_cons (pe_op op_sub (pv 1) (pe_op op_shl pe_int (pv 5))) pa_nil))))
      (pss_cons (ps_set (i := 7) sc__law_balanced.nd rfl (.inl rfl) (pe_callB (call_min2 rfl) (by rfl) T.n_min (by decide +kernel) (pa_cons (pe_op op_shl pe_int (pv 4)) (pa_cons (pe_op op_sub (pv 1) (pcN c__law_least hr (by omega) (pa_cons (pv 5) pa_nil))) pa_nil))))
      (pss_one (ps_if (pt_cmpR op_le (pv 6) (pv 7) (nomark _)) (pss_one (ps_expr (pe_bm PySem.F.plainAttrs_list PySem.F.slot_list_append PySem.F.type_list_append mt_append (pv 3) (pa_cons (pe_tup (pa_cons (pv 4) (pa_cons (pv 5) (pa_cons (pv 6) (pa_cons (pv 7) pa_nil))))) pa_nil)))) pss_nil)))) pss_nil)))
      (pss_cons (ps_asg (pcN c__law_one hr (by omega) (pa_cons (pv 0) (pa_cons (pv 3) pa_nil))) (pg_tup rfl (pgs_cons (pg_name (i := 4) sc__law_balanced.nd rfl (.inl rfl)) (pgs_cons (pg_name (i := 5) sc__law_balanced.nd rfl (.inl rfl)) (pgs_cons (pg_name (i := 6) sc__law_balanced.nd rfl (.inl rfl)) (pgs_cons (pg_name (i := 7) sc__law_balanced.nd rfl (.inl rfl)) pgs_nil))))))
      (pss_cons (ps_set (i := 8) sc__law_balanced.nd rfl (.inl rfl) (pe_op op_add (pv 6) (pcN c__law_draw hr (by omega) (pa_cons (pv 0) (pa_cons (pe_op op_add (pe_op op_sub (pv 7) (pv 6)) pe_int) pa_nil)))))
      (pss_one (ps_ret (pe_tup (pa_cons (pcN ih hr (Nat.le_refl _) (pa_cons (pv 0) (pa_cons (pv 8) (pa_cons (pv 4) pa_nil)))) (pa_cons (pcN ih hr (Nat.le_refl _) (pa_cons (pv 0) (pa_cons (pe_op op_sub (pv 1) (pv 8)) (pa_cons (pv 5) pa_nil)))) pa_nil)))))))))), ?_⟩
      obtain ⟨p, m, wd, h, rfl, F, hm, hn, hc, h20, h1, h2, q⟩ := h
      refine ⟨_, rfl, rfl, _, rfl, ite2 (fun e => ?_) (fun e => ?_)⟩
      · have e0 : h = 0 := by
          have := V.int.inj (of_decide_eq_true e)
          omega
        subst e0
        refine q H .non .one (But.refl _ _) F .one ?_ rfl rfl
        have : leastW 0 = 1 := rfl
        have : (2 : Nat) ^ 0 = 1 := rfl
        show 1 = wd
        omega
      · have h0 : 0 < h := Nat.pos_of_ne_zero fun z => e (decide_eq_true (by rw [z]; rfl))
        refine ⟨Nat.zero_le _, fun wy ny => ?_⟩
        refine ⟨_, rfl, _, _, rfl, rfl, _, rfl, _, _, rfl, rfl, by show 2 ≤ sizeLine; decide, fun a1 n1 => ?_⟩
        refine ⟨_, rfl, _, _, rfl, rfl, _, rfl, _, _, rfl, rfl, by show 2 ≤ sizeLine; decide, fun a2 n2 => ?_⟩
        refine ⟨_, rfl, _, _, rfl, rfl, _, rfl, _, _, rfl, rfl, by show 2 ≤ sizeLine; decide, fun a3 n3 => ?_⟩
        refine ⟨by show 3 ≤ sizeLine; decide, fun a4 n4 => ?_⟩
        have S1 := same_new (o := .lst []) ny
        have S2 := same_new (o := .tup [.int ((h : Int) - 1), .int ((h : Int) - 1)]) n1
        have S3 := same_new (o := .tup [.int ((h : Int) - 1), .int ((h : Int) - 2)]) n2
        have S4 := same_new (o := .tup [.int ((h : Int) - 2), .int ((h : Int) - 1)]) n3
        have S5 := same_new (o := .lst [.ref a1, .ref a2, .ref a3]) n4
        obtain ⟨H5, e5⟩ : ∃ H5, H5 = upd (upd (upd (upd (upd H wy (.lst [])) a1 (.tup [.int ((h : Int) - 1), .int ((h : Int) - 1)])) a2 (.tup [.int ((h : Int) - 1), .int ((h : Int) - 2)])) a3 (.tup [.int ((h : Int) - 2), .int ((h : Int) - 1)])) a4 (.lst [.ref a1, .ref a2, .ref a3]) := ⟨_, rfl⟩
        have y5 : H5 wy = some (.lst []) := by rw [e5]; exact S5 _ _ (S4 _ _ (S3 _ _ (S2 _ _ upd_same)))
        have t1 : H5 a1 = some (.tup [.int ((h : Int) - 1), .int ((h : Int) - 1)]) := by rw [e5]; exact S5 _ _ (S4 _ _ (S3 _ _ upd_same))
        have t2 : H5 a2 = some (.tup [.int ((h : Int) - 1), .int ((h : Int) - 2)]) := by rw [e5]; exact S5 _ _ (S4 _ _ upd_same)
        have t3 : H5 a3 = some (.tup [.int ((h : Int) - 2), .int ((h : Int) - 1)]) := by rw [e5]; exact S5 _ _ upd_same
        have t4 : H5 a4 = some (.lst [.ref a1, .ref a2, .ref a3]) := by rw [e5]; exact upd_same
        have S05 : Same H H5 := by rw [e5]; exact S1.trans (S2.trans (S3.trans (S4.trans S5)))
        have ny4 : a4 ≠ wy := fun z => by rw [z, S4 _ _ (S3 _ _ (S2 _ _ upd_same))] at n4; cases n4
        have F5 : FeedAt H5 p m := F.same S05
        have npy : p ≠ wy := fun z => by obtain ⟨ys, hy⟩ := F.lst; rw [z, ny] at hy; cases hy
        refine ⟨a4, rfl, ⟨_, sqL_of upd_same⟩, for_list (xs := [.ref a1, .ref a2, .ref a3]) (BalInv H5 p wy wd h) ⟨none, none, none, none, [], rfl, (by rw [e5]; exact But.refl _ _), (by rw [← e5]; exact y5), (fun x z => by cases z), Nat.le_refl _, (fun j l r z => by cases z)⟩ ?_ ?_ ?_⟩
        · rintro i σ H' _ ⟨_, _, _, _, ws, _, b, _⟩
          exact sqL_of (b a4 _ ny4 t4)
        · -- a turn
          rintro i x σ H' hx ⟨x4, x5, x6, x7, ws, rfl, b, hws, hok, hlen, hne⟩
          obtain ⟨a, li, ri, rfl, ha, hw⟩ : ∃ a li ri, x = .ref a ∧ H5 a = some (.tup [.int li, .int ri]) ∧ wayI h i li ri := by
            match i, hx with
            | 0, hx => cases hx; exact ⟨a1, _, _, rfl, t1, .inl ⟨rfl, rfl, rfl⟩⟩
            | 1, hx => cases hx; exact ⟨a2, _, _, rfl, t2, .inr (.inl ⟨rfl, rfl, rfl⟩)⟩
            | 2, hx => cases hx; exact ⟨a3, _, _, rfl, t3, .inr (.inr ⟨rfl, rfl, rfl⟩)⟩
            | n + 3, hx => cases hx
          have hi : i < 3 := by
            rcases hw with ⟨e, _⟩ | ⟨e, _⟩ | ⟨e, _⟩ <;> omega
          have nay : a ≠ wy := ne_of ha y5 (fun z => by cases z)
          have ha' := b a _ nay ha
          refine ⟨a, _, rfl, sqT_of ha', rfl, _, _, rfl, _, _, rfl, rfl, ?_⟩
          refine ⟨_, rfl, _, rfl, _, _, rfl, _, _, rfl, rfl, _, rfl, ?_⟩
          refine ite2 (fun e => ?_) (fun e => ?_)
          · have e1 : 0 ≤ (if ri < li then ri else li) := of_decide_eq_true e
            obtain ⟨l, rfl⟩ : ∃ l : Nat, li = l := ⟨li.toNat, by split at e1 <;> omega⟩
            obtain ⟨r, rfl⟩ : ∃ r : Nat, ri = r := ⟨ri.toNat, by split at e1 <;> omega⟩
            have hW : Ways h l r := by
              rcases hw with ⟨_, _, _⟩ | ⟨_, _, _⟩ | ⟨_, _, _⟩
              · exact .inl (by omega)
              · exact .inr (.inl (by omega))
              · exact .inr (.inr (by omega))
            have hl : l ≤ 20 := by rcases hW with ⟨_, _⟩ | ⟨_, _⟩ | ⟨_, _⟩ <;> omega
            have hrr : r ≤ 20 := by rcases hW with ⟨_, _⟩ | ⟨_, _⟩ | ⟨_, _⟩ <;> omega
            refine ⟨_, rfl, l, rfl, by omega, fun H6 s6 => ?_⟩
            refine ⟨_, rfl, _, rfl, _, _, rfl, rfl, ⟨by omega, by omega, by decide⟩, _, _, rfl, rfl, _, _, rfl, ?_⟩
            refine ⟨_, rfl, _, _, rfl, rfl, ⟨by omega, by omega, by decide⟩, _, rfl, _, rfl, r, rfl, by omega, fun H7 s7 => ?_⟩
            refine ⟨_, _, rfl, rfl, _, _, rfl, ?_⟩
            refine ⟨_, rfl, _, rfl, _, _, rfl, rfl, _, rfl, ?_⟩
            have s67 := s6.trans s7
            have b7 : But wy H5 H7 := b.trans (But.of s67)
            have w7 := s67 _ _ hws
            have ok7 : ∀ x ∈ ws, WayOk H7 h wd x := fun x z => (hok x z).same fun a xs e => s67 _ _ e
            have pl := leastW_two l
            have pr := leastW_two r
            obtain ⟨lo, elo⟩ : ∃ lo : Int, lo = (if (wd : Int) - 1 * 2 ^ (Int.toNat (r : Int)) > leastW l then (wd : Int) - 1 * 2 ^ (Int.toNat (r : Int)) else leastW l) := ⟨_, rfl⟩
            obtain ⟨hi', ehi⟩ : ∃ hi' : Int, hi' = (if (wd : Int) - leastW r < 1 * 2 ^ (Int.toNat (l : Int)) then (wd : Int) - leastW r else 1 * 2 ^ (Int.toNat (l : Int))) := ⟨_, rfl⟩
            have elo2 := elo
            have ehi2 := ehi
            rw [pow_cast] at elo2 ehi2
            refine ite2 (fun e => ?_) (fun e => ?_)
            · have e2 : lo ≤ hi' := by rw [elo, ehi]; exact of_decide_eq_true e
              refine ⟨_, rfl, .inl ⟨rfl, _, sqL_of w7⟩, _, rfl, _, rfl, _, rfl, _, rfl, by show 4 ≤ sizeLine; decide, fun a5 n5 => ?_⟩
              have s5 := same_new (o := .tup [.int (l : Int), .int (r : Int), .int lo, .int hi']) n5
              have n5y : a5 ≠ wy := fun z => by rw [z, w7] at n5; cases n5
              refine ⟨wy, ws, _, rfl, rfl, (by rw [upd_ne n5y.symm]; exact w7), Nat.lt_of_le_of_lt (show ws.length ≤ 3 by omega) (by decide), ?_⟩
              refine ⟨some (.int (l : Int)), some (.int (r : Int)), some (.int lo), some (.int hi'), ws ++ [.ref a5], (by rw [elo, ehi]; rfl), (b7.trans (But.of (same_new n5))).trans but_upd, upd_same, ?_, (by rw [List.length_append]; show ws.length + 1 ≤ i + 1; omega), fun _ _ _ _ _ _ z => by simp at z⟩
              intro x hx
              rcases List.mem_append.mp hx with hx | hx
              · exact ((ok7 x hx).same fun a xs e => same_new n5 _ _ e).same fun a xs e => by rw [upd_ne]; exact e; exact ne_of e (by rw [upd_ne n5y.symm]; exact w7) (fun z => by cases z)
              · cases hx with
                | head =>
                  refine ⟨a5, l, r, lo, hi', rfl, (by rw [upd_ne n5y, elo, ehi]; exact upd_same), hW, ?_, ?_, e2, ?_, ?_⟩
                  · rw [elo2]; split <;> omega
                  · rw [elo2, show (2 : Int) ^ r = ((2 ^ r : Nat) : Int) by rw [Int.natCast_pow]; rfl]; split <;> omega
                  · rw [ehi2, show (2 : Int) ^ l = ((2 ^ l : Nat) : Int) by rw [Int.natCast_pow]; rfl]; split <;> omega
                  · rw [ehi2]; split <;> omega
                | tail _ z => cases z
            · have e2 : ¬ lo ≤ hi' := fun z => e (by rw [elo, ehi] at z; exact decide_eq_true z)
              refine ⟨some (.int (l : Int)), some (.int (r : Int)), some (.int lo), some (.int hi'), ws, (by rw [elo, ehi]; rfl), b7, w7, ok7, by omega, fun j l' r' hj wj fj => ?_⟩
              by_cases ej : j < i
              · exact hne j l' r' ej wj fj
              · have ej : j = i := by omega
                subst ej
                have el : l' = l ∧ r' = r := by
                  rcases wj with ⟨_, _, _⟩ | ⟨_, _, _⟩ | ⟨_, _, _⟩ <;> rcases hw with ⟨_, _, _⟩ | ⟨_, _, _⟩ | ⟨_, _, _⟩ <;> omega
                obtain ⟨rfl, rfl⟩ := el
                refine (e2 ?_).elim
                obtain ⟨f1, f2⟩ := fj
                rw [elo2, ehi2]
                split <;> split <;> omega
          · have e1 : ¬ 0 ≤ (if ri < li then ri else li) := fun z => e (decide_eq_true z)
            refine ⟨_, _, _, _, ws, rfl, b, hws, hok, by omega, fun j l' r' hj wj fj => ?_⟩
            by_cases ej : j < i
            · exact hne j l' r' ej wj fj
            · have ej : j = i := by omega
              subst ej
              exfalso
              rcases wj with ⟨_, _, _⟩ | ⟨_, _, _⟩ | ⟨_, _, _⟩ <;> rcases hw with ⟨_, _, _⟩ | ⟨_, _, _⟩ | ⟨_, _, _⟩ <;> (split at e1 <;> omega)
        · rintro σ H' ⟨x4, x5, x6, x7, ws, rfl, b, hws, hok, hlen, hne⟩
          have hlen : ws.length ≤ 3 := hlen
          have hne2 : ws ≠ [] := by
            rcases fits_one h0 h1 h2 with f | ⟨g, f⟩
            · exact hne 0 (h - 1) (h - 1) (show (0 : Nat) < 3 by decide) (.inl (by omega)) f
            · exact hne 1 (h - 1) (h - 2) (show (1 : Nat) < 3 by decide) (.inr (.inl (by omega))) f
          have F' : FeedAt H' p m := F5.keep fun o ho => b p o npy ho
          have p20 : (2 : Nat) ^ 20 = 1048576 := by decide
          have wl : 0 < ws.length := List.length_pos_iff.mpr hne2
          have pw : 2 ^ h ≤ 2 ^ 20 := Nat.pow_le_pow_right (by decide) h20
          refine ⟨_, rfl, _, rfl, p, m, wy, ws, rfl, F', by omega, sqL_of hws, npy.symm, wl, by omega, fun H8 x g b8 F8 hx => ?_⟩
          obtain ⟨a, l, r, lo, hi, rfl, ha, hW, g1, g2, g3, g4, g5⟩ := hok x (List.mem_of_getElem? hx)
          have nap : a ≠ p := by
            obtain ⟨ys, hy⟩ := F'.lst
            exact ne_of ha hy (fun z => by cases z)
          have hl : l < h ∧ r < h := by rcases hW with ⟨_, _⟩ | ⟨_, _⟩ | ⟨_, _⟩ <;> omega
          refine ⟨a, _, rfl, sqT_of (b8 a _ nap ha), rfl, _, _, rfl, _, _, rfl, _, _, rfl, _, _, rfl, rfl, ?_⟩
          have pl := leastW_pos l
          have pr := leastW_pos r
          have p100 : (1048578 : Int) < 10 ^ 100 := by decide
          refine ⟨_, rfl, _, rfl, _, rfl, _, rfl, _, _, rfl, rfl, _, _, rfl, rfl, p, m + 1, hi - lo + 1, rfl, F8, by omega, by omega, by omega, fun H9 g9 b9 F9 g90 g91 => ?_⟩
          refine ⟨_, _, rfl, rfl, ?_⟩
          obtain ⟨w1, ew1⟩ : ∃ w1 : Nat, lo + g9 = (w1 : Int) := ⟨(lo + g9).toNat, by omega⟩
          have cc : balCost h = 2 + 2 * balCost (h - 1) := by
            obtain ⟨k, rfl⟩ : ∃ k, h = k + 1 := ⟨h - 1, by omega⟩
            rfl
          have cl : balCost l ≤ balCost (h - 1) := balCost_mono (by omega)
          have cr : balCost r ≤ balCost (h - 1) := balCost_mono (by omega)
          have e2l : (2 : Int) ^ l = ((2 ^ l : Nat) : Int) := by rw [Int.natCast_pow]; rfl
          have e2r : (2 : Int) ^ r = ((2 ^ r : Nat) : Int) := by rw [Int.natCast_pow]; rfl
          rw [e2l] at g4
          rw [e2r] at g2
          refine ⟨_, rfl, _, rfl, _, rfl, p, m + 1 + 1, w1, l, congrArg (fun z => [V.ref p, .int z, .int (l : Nat)]) ew1, F9, by omega, by omega, by omega, by omega, by omega, by omega, fun H10 v1 s1 b10 F10 R1 q1 q2 q3 => ?_⟩
          have e4 : (wd : Int) - (lo + g9) = ((wd - w1 : Nat) : Int) := by omega
          refine ⟨_, rfl, _, rfl, _, rfl, _, _, rfl, rfl, _, rfl, p, m + 1 + 1 + balCost l, wd - w1, r, congrArg (fun z => [V.ref p, .int z, .int (r : Nat)]) e4, F10, by omega, by omega, by omega, by omega, by omega, by omega, fun H11 v2 s2 b11 F11 R2 q4 q5 q6 => ?_⟩
          refine ⟨by show 2 ≤ sizeLine; decide, fun a6 n6 => ?_⟩
          have s6 := same_new (o := .tup [v1, v2]) n6
          have k1011 : Keep H10 H11 := F10.keeps b11 F11
          refine q _ _ (s1.pair s2) ?_ ((F11.new n6).mono (by omega)) (.pair (sqT_of upd_same) ((R1.keep k1011).keep (Keep.of s6)) (R2.keep (Keep.of s6))) ?_ ?_ ?_
          · have bb : But p H H' := fun c o nc hc => b c o (fun z => by rw [z, ny] at hc; cases hc) (S05 _ _ hc)
            exact ((((bb.trans b8).trans b9).trans b10).trans b11).trans (But.of s6)
          · show s1.wid + s2.wid = wd
            omega
          · show 1 + max s1.hgt s2.hgt = h
            rw [q2, q5]
            rcases hW with ⟨_, _⟩ | ⟨_, _⟩ | ⟨_, _⟩ <;> omega
          · show (s1.isBal && s2.isBal && decide (s1.hgt ≤ s2.hgt + 1) && decide (s2.hgt ≤ s1.hgt + 1)) = true
            rw [q3, q6, q2, q5, decide_eq_true (show l ≤ r + 1 by rcases hW with ⟨_, _⟩ | ⟨_, _⟩ | ⟨_, _⟩ <;> omega), decide_eq_true (show r ≤ l + 1 by rcases hW with ⟨_, _⟩ | ⟨_, _⟩ | ⟨_, _⟩ <;> omega)]
            rfl
end

section
variable {P : Program} {w : World} {K : PySem.W.Frag} {mg : Str → Option Value} {base : Heap} {cMatchError cBadShape cBadCount : Addr}
def spWidthIn (K : PySem.W.Frag) (n : Nat) : Sp := fun vs H Q _ => ∃ v t, ∃ m : Nat, vs = [v, .int m] ∧ RepTh K H v t ∧ m < n ∧ Q (.int (t.win m)) H
theorem ok_width_in (T : Top K mg cMatchError cBadShape cBadCount) : ∀ n, Cl P w K mg base n "width_in" ["thing", "most"] (spWidthIn K n)
  | 0 => by
    exact T.d_width_in.never fun vs H Q E h => by
      obtain ⟨_, _, _, _, _, z, _⟩ := h
      cases z
  | n + 1 => by
    have ih := ok_width_in T n
    refine T.d_width_in.ok sc_width_in (fun vs H Q E h => ?_) (fun f cdv A outer s H vs Q E hr h => ?_)
    · obtain ⟨v, t, m, rfl, _⟩ := h
      rfl
    · refine ⟨_, (pss_cons (ps_if (pt_cmpR op_isN (pv 0) pe_non (nomark _)) (pss_one (ps_ret pe_int)) pss_nil)
      (pss_cons (ps_if (PW.pt (pw_or (pt_cmpR op_eq (pv 1) pe_int (nomark _)) (pw_or (pt_not (pt_val (pe_callB call_isi (by rfl) T.n_isinstance (by decide +kernel) (pa_cons (pv 0) (pa_cons (pe_bltn (v := .ty "tuple") (by rfl) T.n_tuple (by decide +kernel) rfl) pa_nil))))) (pw_or1 (pt_cmpR op_ne (pe_callB call_len_seq (by rfl) T.n_len (by decide +kernel) (pa_cons (pv 0) pa_nil)) pe_int (nomark _)))))) (pss_one (ps_ret pe_int)) pss_nil)
      (pss_cons (ps_set (i := 2) sc_width_in.nd rfl (.inl rfl) (pcN ih hr (Nat.le_refl _) (pa_cons (pe_ix ix_tup (pv 0) pe_int (fun _ _ => rfl)) (pa_cons (pe_op op_sub (pv 1) pe_int) pa_nil))))
      (pss_cons (ps_set (i := 3) sc_width_in.nd rfl (.inl rfl) (pe_ifExp (pt_cmpR op_eq (pv 2) pe_int (nomark _)) pe_int (pcN ih hr (Nat.le_refl _) (pa_cons (pe_ix ix_tup (pv 0) pe_int (fun _ _ => rfl)) (pa_cons (pe_op op_sub (pv 1) pe_int) pa_nil)))))
      (pss_cons (ps_if (PW.pt (pw_or (pt_cmpR op_eq (pv 3) pe_int (nomark _)) (pw_or1 (pt_cmpR op_gt (pe_op op_add (pv 2) (pv 3)) (C8.pe_gc (by rfl) T.v_MOST_NODES) (nomark _))))) (pss_one (ps_ret pe_int)) pss_nil)
      (pss_one (ps_ret (pe_op op_add (pv 2) (pv 3))))))))), ?_⟩
      obtain ⟨v, t, m, rfl, r, hm, q⟩ := h
      cases r with
      | one =>
        refine ⟨_, rfl, rfl, _, rfl, iteT ?_⟩
        have e : Th.one.win m = 1 := by cases m <;> rfl
        rw [e] at q
        exact q
      | @other v n ty hn nn ht =>
        refine ⟨_, rfl, rfl, _, rfl, ?_⟩
        rw [decide_eq_false nn]
        refine iteF ?_
        have e : Th.other.win m = 0 := by cases m <;> rfl
        rw [e] at q
        refine ⟨_, rfl, rfl, _, rfl, ite2 (fun e => iteT q) (fun e => ?_)⟩
        have k1 : PySem.W.kitOne K (.type n) (.type "tuple") = some (n == "tuple") := by
          simp only [kinds, List.mem_cons, List.not_mem_nil, or_false] at hn
          rcases hn with rfl | rfl | rfl | rfl | rfl | rfl | rfl <;> exact kit_ty (by decide +kernel)
        refine ⟨_, rfl, _, _, _, _, _, rfl, .ty "tuple", ty, k1, _, rfl, ?_⟩
        by_cases hd : n = "tuple"
        · subst hd
          obtain ⟨a, xs, rfl, hS, hl⟩ := ht rfl
          refine iteF ?_
          refine ⟨_, rfl, a, xs, rfl, .inr hS, rfl, _, rfl, ?_⟩
          rw [decide_eq_false (show ¬ (V.int xs.length = V.int 2) from fun z => hl (by have := V.int.inj z; omega))]
          exact iteT q
        · have hb : (n == "tuple") = false := by simpa using hd
          rw [hb]
          exact iteT (iteT q)
      | @pair a v1 v2 t1 t2 hS r1 r2 =>
        refine ⟨_, rfl, rfl, _, rfl, iteF ?_⟩
        cases m with
        | zero => exact ⟨_, rfl, rfl, _, rfl, iteT (iteT q)⟩
        | succ m =>
          refine ⟨_, rfl, rfl, _, rfl, ?_⟩
          rw [decide_eq_false (show ¬ (V.int ((m + 1 : Nat) : Int) = V.int 0) from fun z => by cases z)]
          refine iteF ?_
          refine ⟨_, rfl, _, _, _, _, _, rfl, .ty "tuple", ty_t hS, kit_ty (r := true) (by decide +kernel), _, rfl, iteF ?_⟩
          refine ⟨_, rfl, a, _, rfl, .inr hS, rfl, _, rfl, iteF ?_⟩
          have em : ((m + 1 : Nat) : Int) - 1 = (m : Int) := by omega
          refine ⟨_, rfl, a, _, _, _, rfl, rfl, hS, atI_nat (j := 0) rfl, _, rfl, _, _, rfl, rfl, ?_⟩
          refine ⟨v1, t1, m, congrArg (fun z => [_, V.int z]) em, r1, by omega, ?_⟩
          refine ⟨_, rfl, rfl, _, rfl, ?_⟩
          have qq : (t1.pair t2).win (m + 1) = if t1.win m = 0 ∨ t2.win m = 0 ∨ 20000 < t1.win m + t2.win m then 0 else t1.win m + t2.win m := rfl
          rw [qq] at q
          refine ite2 (fun e => ?_) (fun e => ?_)
          · have e1 : t1.win m = 0 := by
              have := V.int.inj (of_decide_eq_true e)
              omega
            refine ⟨_, rfl, rfl, _, rfl, iteT (iteT ?_)⟩
            rw [if_pos (.inl e1)] at q
            exact q
          · have e1 : t1.win m ≠ 0 := fun z => e (decide_eq_true (by rw [z]; rfl))
            refine ⟨_, rfl, a, _, _, _, rfl, rfl, hS, atI_nat (j := 1) rfl, _, rfl, _, _, rfl, rfl, ?_⟩
            refine ⟨v2, t2, m, congrArg (fun z => [_, V.int z]) em, r2, by omega, ?_⟩
            refine ⟨_, rfl, rfl, _, rfl, ite2 (fun e => ?_) (fun e => ?_)⟩
            · have e2 : t2.win m = 0 := by
                have := V.int.inj (of_decide_eq_true e)
                omega
              rw [if_pos (.inr (.inl e2))] at q
              exact iteT q
            · have e2 : t2.win m ≠ 0 := fun z => e (decide_eq_true (by rw [z]; rfl))
              refine ⟨_, rfl, _, rfl, _, _, rfl, rfl, _, _, rfl, rfl, _, rfl, ?_⟩
              refine ite2 (fun e => ?_) (fun e => ?_)
              · have e3 : (20000 : Int) < t1.win m + t2.win m := of_decide_eq_true e
                rw [if_pos (.inr (.inr (by omega)))] at q
                exact q
              · have e3 : ¬ (20000 : Int) < t1.win m + t2.win m := fun z => e (decide_eq_true z)
                rw [if_neg (by omega)] at q
                exact ⟨_, rfl, _, rfl, _, _, rfl, rfl, q⟩
end

section
variable {P : Program} {w : World} {K : PySem.W.Frag} {mg : Str → Option Value} {base : Heap} {cMatchError cBadShape cBadCount : Addr}
/-- a shape to the height 40 and the width 20000 -/
def Th.good (t : Th) : Prop := t.sh = true ∧ t.hgt ≤ 40 ∧ t.wid ≤ 20000
instance (t : Th) : Decidable t.good := by unfold Th.good; infer_instance
def spNeedShape (K : PySem.W.Frag) (C : Addr) : Sp := fun vs H Q E => ∃ v t, vs = [v] ∧ RepTh K H v t ∧ (t.good → Q (.int t.wid) H) ∧ (¬ t.good → E (.ref C) none H)
theorem ok_need_shape (T : Top K mg cMatchError cBadShape cBadCount) : Cl P w K mg base 42 "need_shape" ["shape"] (spNeedShape K cBadShape) := by
  have c_width_in := ok_width_in (P := P) (w := w) (base := base) T 41
  refine T.d_need_shape.ok sc_need_shape (fun vs H Q E h => ?_) (fun f cdv A outer s H vs Q E hr h => ?_)
  · obtain ⟨v, t, rfl, _⟩ := h
    rfl
  · refine ⟨_, (pss_cons (ps_set (i := 1) sc_need_shape.nd rfl (.inl rfl) (pcN c_width_in hr (by decide) (pa_cons (pv 0) (pa_cons (C8.pe_gc (by rfl) T.v_MOST_HEIGHT) pa_nil))))
      (pss_cons (ps_if (pt_cmpR op_eq (pv 1) pe_int (nomark _)) (pss_one (ps_raise rfl (takes_of rfl rfl rfl rfl) (pmk_own PySem.F.excBase_ValueError T.e_BadShape.x T.e_BadShape.g T.e_BadShape.k (raises_own T.e_BadShape.b T.e_BadShape.t) (by rfl)))) pss_nil)
      (pss_one (ps_ret (pv 1))))), ?_⟩
    obtain ⟨v, t, rfl, r, qy, qn⟩ := h
    refine ⟨_, rfl, v, t, 40, rfl, r, by decide, ?_⟩
    rw [t.win_eq 40]
    refine ⟨_, rfl, rfl, _, rfl, ?_⟩
    by_cases g : t.good
    · have g' : t.sh = true ∧ t.hgt ≤ 40 ∧ t.wid ≤ 20000 := g
      have p := t.wid_pos g.1
      rw [if_pos g']
      rw [decide_eq_false (show ¬ V.int (t.wid : Int) = V.int 0 from fun z => by have := V.int.inj z; omega)]
      exact iteF ⟨_, rfl, qy g⟩
    · have g' : ¬ (t.sh = true ∧ t.hgt ≤ 40 ∧ t.wid ≤ 20000) := g
      rw [if_neg g']
      exact iteT (qn g)
end

section
variable {P : Program} {w : World} {K : PySem.W.Frag} {mg : Str → Option Value} {base : Heap} {cMatchError cBadShape cBadCount : Addr}
def spHeightIn (K : PySem.W.Frag) (n : Nat) : Sp := fun vs H Q _ => ∃ v t, vs = [v] ∧ RepTh K H v t ∧ t.sh = true ∧ t.hgt < n ∧ Q (.int t.hgt) H
theorem ok_height_in (T : Top K mg cMatchError cBadShape cBadCount) : ∀ n, Cl P w K mg base n "height_in" ["shape"] (spHeightIn K n)
  | 0 => by
    exact T.d_height_in.never fun vs H Q E h => by
      obtain ⟨_, _, _, _, _, z, _⟩ := h
      cases z
  | n + 1 => by
    have ih := ok_height_in T n
    refine T.d_height_in.ok sc_height_in (fun vs H Q E h => ?_) (fun f cdv A outer s H vs Q E hr h => ?_)
    · obtain ⟨v, t, rfl, _⟩ := h
      rfl
    · refine ⟨_, (pss_cons (ps_if (pt_cmpR op_isN (pv 0) pe_non (nomark _)) (pss_one (ps_ret pe_int)) pss_nil)
      (pss_one (ps_ret (pe_op op_add pe_int (pe_callB (call_max2 rfl) (by rfl) T.n_max (by decide +kernel) (pa_cons (pcN ih hr (Nat.le_refl _) (pa_cons (pe_ix ix_tup (pv 0) pe_int (fun _ _ => rfl)) pa_nil)) (pa_cons (pcN ih hr (Nat.le_refl _) (pa_cons (pe_ix ix_tup (pv 0) pe_int (fun _ _ => rfl)) pa_nil)) pa_nil))))))), ?_⟩
      obtain ⟨v, t, rfl, r, sh, hm, q⟩ := h
      cases r with
      | one => exact ⟨_, rfl, rfl, _, rfl, iteT q⟩
      | other => cases sh
      | @pair a v1 v2 t1 t2 hS r1 r2 =>
        have sh : (t1.sh && t2.sh) = true := sh
        rw [Bool.and_eq_true] at sh
        have hm : 1 + max t1.hgt t2.hgt < n + 1 := hm
        refine ⟨_, rfl, rfl, _, rfl, iteF ?_⟩
        refine ⟨_, rfl, a, _, _, _, rfl, rfl, hS, atI_nat (j := 0) rfl, v1, t1, rfl, r1, sh.1, by omega, ?_⟩
        refine ⟨_, rfl, a, _, _, _, rfl, rfl, hS, atI_nat (j := 1) rfl, v2, t2, rfl, r2, sh.2, by omega, ?_⟩
        refine ⟨_, _, rfl, _, _, rfl, rfl, ?_⟩
        show Q (.int (1 + if (t2.hgt : Int) > t1.hgt then (t2.hgt : Int) else t1.hgt)) H
        have e : (1 + if (t2.hgt : Int) > t1.hgt then (t2.hgt : Int) else t1.hgt) = (((t1.pair t2).hgt : Nat) : Int) := by
          show _ = ((1 + max t1.hgt t2.hgt : Nat) : Int)
          split <;> omega
        rw [e]
        exact q
end

section
variable {P : Program} {w : World} {K : PySem.W.Frag} {mg : Str → Option Value} {base : Heap} {cMatchError cBadShape cBadCount : Addr}
def spHeightOf (K : PySem.W.Frag) (C : Addr) : Sp := fun vs H Q E => ∃ v t, vs = [v] ∧ RepTh K H v t ∧ (t.good → Q (.int t.hgt) H) ∧ (¬ t.good → E (.ref C) none H)
theorem ok_height_of (T : Top K mg cMatchError cBadShape cBadCount) : Cl P w K mg base 43 "height_of" ["shape"] (spHeightOf K cBadShape) := by
  have c_need_shape := ok_need_shape (P := P) (w := w) (base := base) T
  have c_height_in := ok_height_in (P := P) (w := w) (base := base) T 41
  refine T.d_height_of.ok sc_height_of (fun vs H Q E h => ?_) (fun f cdv A outer s H vs Q E hr h => ?_)
  · obtain ⟨v, t, rfl, _⟩ := h
    rfl
  · refine ⟨_, (pss_cons (ps_expr (pcT c_need_shape hr (by decide) (takes_of rfl rfl rfl rfl) (pa_cons (pv 0) pa_nil)))
      (pss_one (ps_ret (pcN c_height_in hr (by decide) (pa_cons (pv 0) pa_nil))))), ?_⟩
    obtain ⟨v, t, rfl, r, qy, qn⟩ := h
    exact ⟨_, rfl, v, t, rfl, r, fun g => ⟨_, rfl, v, t, rfl, r, g.1, by have := g.2.1; omega, qy g⟩, qn⟩
end

section
variable {P : Program} {w : World} {K : PySem.W.Frag} {mg : Str → Option Value} {base : Heap} {cMatchError cBadShape cBadCount : Addr}
def spBalancedHeight (K : PySem.W.Frag) (n : Nat) : Sp := fun vs H Q _ => ∃ v t, vs = [v] ∧ RepTh K H v t ∧ t.sh = true ∧ t.hgt < n ∧ Q (.int t.bal) H
theorem ok_balanced_height (T : Top K mg cMatchError cBadShape cBadCount) : ∀ n, Cl P w K mg base n "balanced_height" ["shape"] (spBalancedHeight K n)
  | 0 => by
    exact T.d_balanced_height.never fun vs H Q E h => by
      obtain ⟨_, _, _, _, _, z, _⟩ := h
      cases z
  | n + 1 => by
    have ih := ok_balanced_height T n
    refine T.d_balanced_height.ok sc_balanced_height (fun vs H Q E h => ?_) (fun f cdv A outer s H vs Q E hr h => ?_)
    · obtain ⟨v, t, rfl, _⟩ := h
      rfl
    · refine ⟨_, (pss_cons (ps_if (pt_cmpR op_isN (pv 0) pe_non (nomark _)) (pss_one (ps_ret pe_int)) pss_nil)
      (pss_cons (ps_set (i := 1) sc_balanced_height.nd rfl (.inl rfl) (pcN ih hr (Nat.le_refl _) (pa_cons (pe_ix ix_tup (pv 0) pe_int (fun _ _ => rfl)) pa_nil)))
      (pss_cons (ps_set (i := 2) sc_balanced_height.nd rfl (.inl rfl) (pcN ih hr (Nat.le_refl _) (pa_cons (pe_ix ix_tup (pv 0) pe_int (fun _ _ => rfl)) pa_nil)))
      (pss_cons (ps_if (PW.pt (pw_or (pt_cmpR op_lt (pe_callB (call_min2 rfl) (by rfl) T.n_min (by decide +kernel) (pa_cons (pv 1) (pa_cons (pv 2) pa_nil))) pe_int (nomark _)) (pw_or1 (pt_cmpR op_gt (pe_callB call_abs (by rfl) T.n_abs (by decide +kernel) (pa_cons (pe_op op_sub (pv 1) (pv 2)) pa_nil)) pe_int (nomark _))))) (pss_one (ps_ret (pe_un un_neg pe_int))) pss_nil)
      (pss_one (ps_ret (pe_op op_add pe_int (pe_callB (call_max2 rfl) (by rfl) T.n_max (by decide +kernel) (pa_cons (pv 1) (pa_cons (pv 2) pa_nil)))))))))), ?_⟩
      obtain ⟨v, t, rfl, r, sh, hm, q⟩ := h
      cases r with
      | one => exact ⟨_, rfl, rfl, _, rfl, iteT q⟩
      | other => cases sh
      | @pair a v1 v2 t1 t2 hS r1 r2 =>
        have sh : (t1.sh && t2.sh) = true := sh
        rw [Bool.and_eq_true] at sh
        have hm : 1 + max t1.hgt t2.hgt < n + 1 := hm
        refine ⟨_, rfl, rfl, _, rfl, iteF ?_⟩
        refine ⟨_, rfl, a, _, _, _, rfl, rfl, hS, atI_nat (j := 0) rfl, v1, t1, rfl, r1, sh.1, by omega, ?_⟩
        refine ⟨_, rfl, a, _, _, _, rfl, rfl, hS, atI_nat (j := 1) rfl, v2, t2, rfl, r2, sh.2, by omega, ?_⟩
        have qq : (t1.pair t2).bal = if min t1.bal t2.bal < 0 ∨ 1 < farI t1.bal t2.bal then -1 else 1 + max t1.bal t2.bal := rfl
        rw [qq] at q
        have e1 : (if t2.bal < t1.bal then t2.bal else t1.bal) = min t1.bal t2.bal := by split <;> omega
        have e2 : (if t2.bal > t1.bal then t2.bal else t1.bal) = max t1.bal t2.bal := by split <;> omega
        refine ⟨_, rfl, _, rfl, _, _, rfl, _, _, rfl, rfl, _, rfl, ?_⟩
        show if decide ((if t2.bal < t1.bal then t2.bal else t1.bal) < 0) = true then _ else _
        rw [e1]
        refine ite2 (fun e => ?_) (fun e => ?_)
        · rw [if_pos (.inl (of_decide_eq_true e))] at q
          exact iteT ⟨_, rfl, q⟩
        · refine ⟨_, rfl, _, rfl, _, _, rfl, rfl, _, rfl, _, _, rfl, rfl, _, rfl, ?_⟩
          show if decide (1 < farI t1.bal t2.bal) = true then _ else _
          refine ite2 (fun e3 => ?_) (fun e3 => ?_)
          · rw [if_pos (.inr (of_decide_eq_true e3))] at q
            exact ⟨_, rfl, q⟩
          · rw [if_neg (fun h => h.elim (fun z => e (decide_eq_true z)) fun z => e3 (decide_eq_true z))] at q
            refine ⟨_, rfl, _, rfl, _, _, rfl, _, _, rfl, rfl, ?_⟩
            show Q (.int (1 + if t2.bal > t1.bal then t2.bal else t1.bal)) H
            rw [e2]
            exact q
end

section
variable {P : Program} {w : World} {K : PySem.W.Frag} {mg : Str → Option Value} {base : Heap} {cMatchError cBadShape cBadCount : Addr}
def spIsBalanced (K : PySem.W.Frag) (C : Addr) : Sp := fun vs H Q E => ∃ v t, vs = [v] ∧ RepTh K H v t ∧ (t.good → Q (.bl t.isBal) H) ∧ (¬ t.good → E (.ref C) none H)
theorem ok_is_balanced (T : Top K mg cMatchError cBadShape cBadCount) : Cl P w K mg base 43 "is_balanced" ["shape"] (spIsBalanced K cBadShape) := by
  have c_need_shape := ok_need_shape (P := P) (w := w) (base := base) T
  have c_balanced_height := ok_balanced_height (P := P) (w := w) (base := base) T 41
  refine T.d_is_balanced.ok sc_is_balanced (fun vs H Q E h => ?_) (fun f cdv A outer s H vs Q E hr h => ?_)
  · obtain ⟨v, t, rfl, _⟩ := h
    rfl
  · refine ⟨_, (pss_cons (ps_expr (pcT c_need_shape hr (by decide) (takes_of rfl rfl rfl rfl) (pa_cons (pv 0) pa_nil)))
      (pss_one (ps_ret (pe_cmpR op_ge (pcN c_balanced_height hr (by decide) (pa_cons (pv 0) pa_nil)) pe_int (nomark _))))), ?_⟩
    obtain ⟨v, t, rfl, r, qy, qn⟩ := h
    refine ⟨_, rfl, v, t, rfl, r, fun g => ?_, qn⟩
    refine ⟨_, rfl, v, t, rfl, r, g.1, by have := g.2.1; omega, ?_⟩
    rw [t.bal_eq]
    refine ⟨_, _, rfl, rfl, ?_⟩
    have e : decide ((0 : Int) ≤ if t.isBal = true then (t.hgt : Int) else -1) = t.isBal := by
      cases t.isBal
      · rfl
      · exact decide_eq_true (by rw [if_pos rfl]; omega)
    show Q (.bl (decide ((0 : Int) ≤ if t.isBal = true then (t.hgt : Int) else -1))) H
    rw [e]
    exact qy g
end

section
variable {P : Program} {w : World} {K : PySem.W.Frag} {mg : Str → Option Value} {base : Heap} {cMatchError cBadShape cBadCount : Addr}
theorem ok_width_of (T : Top K mg cMatchError cBadShape cBadCount) : Cl P w K mg base 43 "width_of" ["shape"] (spNeedShape K cBadShape) := by
  have c_need_shape := ok_need_shape (P := P) (w := w) (base := base) T
  refine T.d_width_of.ok sc_width_of (fun vs H Q E h => ?_) (fun f cdv A outer s H vs Q E hr h => ?_)
  · obtain ⟨v, t, rfl, _⟩ := h
    rfl
  · refine ⟨_, (pss_one (ps_ret (pcT c_need_shape hr (by decide) (takes_of rfl rfl rfl rfl) (pa_cons (pv 0) pa_nil)))), ?_⟩
    obtain ⟨v, t, rfl, r, qy, qn⟩ := h
    exact ⟨_, rfl, v, t, rfl, r, qy, qn⟩
end

section
variable {P : Program} {w : World} {K : PySem.W.Frag} {mg : Str → Option Value} {base : Heap} {cMatchError cBadShape cBadCount : Addr}
theorem Same.but {H H1 H2 : Hp} {p : Addr} (s : Same H H1) (np : H p = none) (b : But p H1 H2) : Same H H2 := fun c o h =>
  b c o (fun z => by rw [z, np] at h; cases h) (s c o h)
def spLaw (K : PySem.W.Frag) : Sp := fun vs H Q _ => ∃ (a : Addr) (ns : List Int), vs = [.ref a] ∧ SqL K H a (ns.map V.int) ∧ ns.length ≤ 63 ∧ (∀ z ∈ ns, z.natAbs.log2 ≤ 1048576) ∧ ∀ H', Q (.bl true) H'
theorem tall_exists (w : Nat) : ∃ h, IsTall w h := by
  have : ∀ n, w < leastW n → ∃ h, IsTall w h := by
    intro n
    induction n with
    | zero => exact fun h => ⟨0, Nat.lt_of_lt_of_le h (by decide), .inl rfl⟩
    | succ n ih =>
      intro h
      by_cases c : w < leastW n
      · exact ih c
      · exact ⟨n, h, .inr (by omega)⟩
  exact this w (leastW_lt w)
theorem tall_two {w h : Nat} (t : IsTall w h) : w ≤ 2 ^ h := by
  have : ∀ h, leastW (h + 1) ≤ 2 ^ h + 1 := by
    intro h
    induction h with
    | zero => decide
    | succ h ih =>
      have := leastW_two h
      have e : leastW (h + 1 + 1) = leastW (h + 1) + leastW h := rfl
      rw [e, Nat.pow_succ]
      omega
  have := this h
  have := t.1
  omega
theorem tall_60 {w h : Nat} (t : IsTall w h) (hw : w ≤ 60) : h ≤ 8 := by
  refine Nat.le_of_not_lt fun l => ?_
  rcases t.2 with e | e
  · omega
  · have := leastW_mono (show 9 ≤ h from l)
    have : leastW 9 = 89 := by decide
    omega
theorem ok_law {fa : Addr} {fd : FuncData} (F : Fun K "law" "law" s_law fa fd) (T : Top K mg cMatchError cBadShape cBadCount) : FnOk P w K mg base (L2.CX P w) 60 fa fd ["script"] (spLaw K) := by
  have c__law_feed := ok__law_feed (P := P) (w := w) (base := base) T
  have c__law_draw := ok__law_draw (P := P) (w := w) (base := base) T
  have c__law_one := ok__law_one (P := P) (w := w) (base := base) T
  have c__law_width := ok__law_width (P := P) (w := w) (base := base) T
  have c__law_tallest := ok__law_tallest (P := P) (w := w) (base := base) T
  have c__law_is_integer := ok__law_is_integer (P := P) (w := w) (base := base) T
  have c__law_refused := ok__law_refused (P := P) (w := w) (base := base) T
  have c__law_balanced := ok__law_balanced (P := P) (w := w) (base := base) T 10
  have c_tallest := ok_tallest (P := P) (w := w) (base := base) T
  have c_height_of := ok_height_of (P := P) (w := w) (base := base) T
  have c_is_balanced := ok_is_balanced (P := P) (w := w) (base := base) T
  have c_width_of := ok_width_of (P := P) (w := w) (base := base) T
  refine F.okX sc_law (fun vs H Q E h => ?_) (fun cdv A outer s H vs Q E hr h => ?_)
  · obtain ⟨a, ns, rfl, _⟩ := h
    rfl
  · have f := fa
    refine ⟨_, (pss_cons (ps_for (passes_of rfl) rfl (pi_range1 (by rfl) T.n_range (pa_cons (pe_callB (call_max2 rfl) (by rfl) T.n_max (by decide +kernel) (pa_cons pe_int (pa_cons (pe_callB (call_min2 rfl) (by rfl) T.n_min (by decide +kernel) (pa_cons pe_int (pa_cons (pe_callB call_len_seq (by rfl) T.n_len (by decide +kernel) (pa_cons (pv 0) pa_nil)) pa_nil))) pa_nil))) pa_nil)) (pg_name (i := 1) sc_law.nd rfl (.inl rfl)) (pss_cons (ps_set (i := 2) sc_law.nd rfl (.inl rfl) (pcN c__law_feed hr (by decide) (pa_cons (pv 0) (pa_cons (pv 1) pa_nil))))
      (pss_cons (ps_par (i := 3) (j := 4) (by rfl) sc_law.nd rfl rfl (by decide) rfl rfl (pa_cons (pcN c__law_width hr (by decide) (pa_cons (pv 2) pa_nil)) (pa_cons (pe_op op_add pe_int (pcN c__law_draw hr (by decide) (pa_cons (pv 2) (pa_cons pe_int pa_nil)))) pa_nil)) (by rfl))
      (pss_cons (ps_set (i := 5) sc_law.nd rfl (.inl rfl) (pcN c__law_draw hr (by decide) (pa_cons (pv 2) (pa_cons (pe_op op_pow pe_int pe_int) pa_nil))))
      (pss_cons (ps_set (i := 6) sc_law.nd rfl (.inl rfl) (pcN c__law_one hr (by decide) (pa_cons (pv 2) (pa_cons (pe_lst (pa_cons (pe_un un_neg pe_int) (pa_cons (pe_op op_sub (pe_un un_neg pe_int) (pv 5)) (pa_cons pe_int (pa_cons (pe_op op_add pe_int (pv 5)) (pa_cons pe_bl (pa_cons pe_bl (pa_cons pe_non (pa_cons pe_str (pa_cons (pe_lst (pa_cons pe_int pa_nil)) (pa_cons (pe_tup (pa_cons pe_int pa_nil)) pa_nil))))))))))) pa_nil))))
      (pss_cons (ps_if (PW.pt (pw_or (pt_not (pt_val (pcN c__law_is_integer hr (by decide) (pa_cons (pcN c_tallest hr (by decide) (pa_cons (pv 3) pa_nil)) (pa_cons (pcN c__law_tallest hr (by decide) (pa_cons (pv 3) pa_nil)) pa_nil))))) (pw_or1 (pt_not (pt_val (pcN c__law_refused hr (by decide) (pa_cons (pv 6) pa_nil))))))) (pss_one (ps_ret pe_bl)) pss_nil)
      (pss_cons (ps_set (i := 7) sc_law.nd rfl (.inl rfl) (pcN c__law_balanced hr (by decide) (pa_cons (pv 2) (pa_cons (pv 4) (pa_cons (pcN c__law_tallest hr (by decide) (pa_cons (pv 4) pa_nil)) pa_nil)))))
      (pss_cons (ps_if (PW.pt (pw_or (pt_not (pt_val (pcN c__law_is_integer hr (by decide) (pa_cons (pcN c_height_of hr (by decide) (pa_cons (pv 7) pa_nil)) (pa_cons (pcN c__law_tallest hr (by decide) (pa_cons (pv 4) pa_nil)) pa_nil))))) (pw_or1 (pt_cmpR op_notBl (pcN c_is_balanced hr (by decide) (pa_cons (pv 7) pa_nil)) pe_bl (nomark _))))) (pss_one (ps_ret pe_bl)) pss_nil)
      (pss_one (ps_if (PW.pt (pw_or (pt_not (pt_val (pcN c__law_is_integer hr (by decide) (pa_cons (pcN c_tallest hr (by decide) (pa_cons (pv 4) pa_nil)) (pa_cons (pcN c__law_tallest hr (by decide) (pa_cons (pv 4) pa_nil)) pa_nil))))) (pw_or1 (pt_not (pt_val (pcN c__law_is_integer hr (by decide) (pa_cons (pcN c_width_of hr (by decide) (pa_cons (pv 7) pa_nil)) (pa_cons (pv 4) pa_nil)))))))) (pss_one (ps_ret pe_bl)) pss_nil))))))))))
      (pss_one (ps_ret pe_bl))), ?_⟩
    obtain ⟨a, ns, rfl, hS, hlen, hb, q⟩ := h
    refine ⟨_, rfl, a, ns.map V.int, rfl, .inl hS, _, _, rfl, _, _, rfl, ?_⟩
    have j63 : ∀ L : Int, (if (if L < 63 then L else 63) > 3 then (if L < 63 then L else 63) else 3) ≤ 63 ∧ 0 ≤ (if (if L < 63 then L else 63) > 3 then (if L < 63 then L else 63) else 3) := fun L => by
      constructor <;> split <;> split <;> omega
    have jj := j63 ((ns.map V.int).length : Int)
    refine ⟨_, rfl, (by show -(2 ^ 62 : Int) ≤ (if _ > _ then _ else _); exact Int.le_trans (by decide) jj.2), (by show (if _ > _ then _ else _) < (2 ^ 62 : Int); exact Int.lt_of_le_of_lt jj.1 (by decide)),
      for_range (lo := 0) (fun i σ H' => Same H H' ∧ ∃ x1 x2 x3 x4 x5 x6 x7, σ = [some (.ref a), x1, x2, x3, x4, x5, x6, x7]) ⟨Same.refl _, none, none, none, none, none, none, none, rfl⟩ ?_ ?_⟩
    · rintro i σ H0 hi ⟨s0, x1, x2, x3, x4, x5, x6, x7, rfl⟩
      have hi2 : (i : Int) < 63 := by
        have h1 : i < (if (if ((ns.map V.int).length : Int) < 63 then ((ns.map V.int).length : Int) else 63) > 3 then (if ((ns.map V.int).length : Int) < 63 then ((ns.map V.int).length : Int) else 63) else 3).toNat := hi
        omega
      refine ⟨_, rfl, _, rfl, a, ns, 0 + (i : Int), rfl, s0.seq hS, hb, by omega, by omega, fun H1 p s1 np F1 => ?_⟩
      refine ⟨_, rfl, p, 0, rfl, F1, by decide, fun H2 wd b2 F2 hw => ?_⟩
      refine ⟨_, rfl, p, 0 + 3, 60, rfl, F2, by decide, by decide, by decide, fun H3 g3 b3 F3 g30 g31 => ⟨_, _, rfl, rfl, _, _, rfl, ?_⟩⟩
      refine ⟨_, rfl, _, _, rfl, rfl, ⟨by decide, by decide, by decide⟩, p, 0 + 3 + 1, _, rfl, F3, by decide, (by show (0 : Int) < 10 ^ Int.toNat 60; decide), (by show (10 : Int) ^ Int.toNat 60 < 10 ^ 100; decide), fun H4 far b4 F4 f0 f1 => ?_⟩
      refine ⟨_, rfl, _, rfl, _, rfl, _, rfl, _, _, rfl, rfl, _, rfl, _, _, rfl, rfl, by show 1 ≤ sizeLine; decide, fun a1 n1 => ?_⟩
      refine ⟨by show 1 ≤ sizeLine; decide, fun a2 n2 => ?_⟩
      refine ⟨by show 10 ≤ sizeLine; decide, fun a3 n3 => ?_⟩
      have S1 := same_new (o := .lst [.int 3]) n1
      have S2 := same_new (o := .tup [.int 3]) n2
      have F5 := ((F4.new (o := .lst [.int 3]) n1).new (o := .tup [.int 3]) n2)
      have ne3 := F5.ne n3
      have ne1 := F4.ne n1
      have l1 : (upd (upd H4 a1 (.lst [.int 3])) a2 (.tup [.int 3])) a1 = some (.lst [.int 3]) := S2 _ _ upd_same
      have l2 : (upd (upd H4 a1 (.lst [.int 3])) a2 (.tup [.int 3])) a2 = some (.tup [.int 3]) := upd_same
      generalize upd (upd H4 a1 (.lst [.int 3])) a2 (.tup [.int 3]) = H5 at S2 F5 n3 l1 l2 ⊢
      refine ⟨p, 5, a3, _, rfl, F5.new n3, by decide, sqL_of upd_same, ne3, by show 0 < 10; decide, by show 10 < 100000; decide, fun H6 x g b6 F6 hx => ?_⟩
      have S3 := same_new (o := HO.lst [V.int (-1), .int (-1 - far), .int 20001, .int (20001 + far), .bl true, .bl false, .non, .str "3", .ref a1, .ref a2]) n3
      have bad : ∃ n, TyX K H6 x (.type n) ∧ n ∈ kinds ∧ ¬ ∃ i : Int, x = .int i ∧ 0 ≤ i ∧ i ≤ 20000 := by
        have k : ∀ v n, TyX K H5 v (.type n) → n ∈ kinds → (¬ ∃ i : Int, v = .int i ∧ 0 ≤ i ∧ i ≤ 20000) → x = v → ∃ n, TyX K H6 x (.type n) ∧ n ∈ kinds ∧ ¬ ∃ i : Int, x = .int i ∧ 0 ≤ i ∧ i ≤ 20000 := fun v n h1 h2 h3 e => by
          subst e
          exact ⟨n, ((F5.new n3).keeps b6 F6).ty ((Keep.of S3).ty h1), h2, h3⟩
        match g, hx with
        | 0, hx => cases hx; exact k _ "int" (ty_int _) (by decide) (fun ⟨i, e, h⟩ => by cases e; omega) rfl
        | 1, hx => cases hx; exact k _ "int" (ty_int _) (by decide) (fun ⟨i, e, h⟩ => by have := V.int.inj e; omega) rfl
        | 2, hx => cases hx; exact k _ "int" (ty_int _) (by decide) (fun ⟨i, e, h⟩ => by have := V.int.inj e; omega) rfl
        | 3, hx => cases hx; exact k _ "int" (ty_int _) (by decide) (fun ⟨i, e, h⟩ => by have := V.int.inj e; omega) rfl
        | 4, hx => cases hx; exact k _ "bool" (ty_bl _) (by decide) (fun ⟨i, e, h⟩ => by cases e) rfl
        | 5, hx => cases hx; exact k _ "bool" (ty_bl _) (by decide) (fun ⟨i, e, h⟩ => by cases e) rfl
        | 6, hx => cases hx; exact k _ "NoneType" ty_non (by decide) (fun ⟨i, e, h⟩ => by cases e) rfl
        | 7, hx => cases hx; exact k _ "str" (ty_str _) (by decide) (fun ⟨i, e, h⟩ => by cases e) rfl
        | 8, hx => cases hx; exact k _ "list" (ty_l (sqL_of l1)) (by decide) (fun ⟨i, e, h⟩ => by cases e) rfl
        | 9, hx => cases hx; exact k _ "tuple" (ty_t (sqT_of l2)) (by decide) (fun ⟨i, e, h⟩ => by cases e) rfl
        | n + 10, hx => cases hx
      obtain ⟨n, ty, hn, hbad⟩ := bad
      have B6 : But p H1 H6 := ((b2.trans b3).trans b4).trans ((But.of (S1.trans (S2.trans S3))).trans b6)
      obtain ⟨few, efew⟩ : ∃ few : Nat, 1 + g3 = (few : Int) := ⟨(1 + g3).toNat, by omega⟩
      have few1 : 1 ≤ few ∧ few ≤ 60 := by omega
      refine ⟨_, rfl, .int wd, "int", rfl, ty_int _, by decide, fun wd' h H7 e1 hw2 t7 s7 => ?_, fun z => (z ⟨wd, rfl, by omega, by omega⟩).elim⟩
      obtain rfl : wd = wd' := by
        have := V.int.inj e1
        omega
      refine ⟨_, rfl, wd, rfl, hw, fun h' H8 t8 s8 => ?_⟩
      obtain rfl := t7.uniq t8
      refine ⟨_, _, rfl, _, rfl, ?_⟩
      rw [decide_eq_true rfl]
      refine iteF ?_
      refine ⟨_, rfl, x, n, rfl, (Keep.of (s7.trans s8)).ty ty, hn, hbad, _, rfl, iteF ?_⟩
      have F8 := F6.same (s7.trans s8)
      refine ⟨_, rfl, _, rfl, _, rfl, few, congrArg (fun z => [V.int z]) efew, by omega, fun h9 H9 t9 s9 => ?_⟩
      have h9b := tall_60 t9 (by omega)
      have cb : balCost h9 ≤ balCost 8 := balCost_mono h9b
      have c8 : balCost 8 = 510 := by decide
      refine ⟨p, 6, few, h9, congrArg (fun z => [V.ref p, .int z, .int (h9 : Nat)]) efew, F8.same s9, by decide, by omega, by omega, by omega, ?_, tall_two t9, fun H10 v t b10 F10 R w1 w2 w3 => ?_⟩
      · rcases t9.2 with e | e
        · rw [e]
          show 1 ≤ few
          omega
        · exact e
      have good : t.good := ⟨t.bal_sh w3, by omega, by omega⟩
      refine ⟨_, rfl, v, t, rfl, R, fun _ => ?_, fun z => (z good).elim⟩
      refine ⟨_, rfl, few, congrArg (fun z => [V.int z]) efew, by omega, fun h11 H11 t11 s11 => ?_⟩
      obtain rfl := t9.uniq t11
      refine ⟨_, _, rfl, _, rfl, ?_⟩
      rw [w2, decide_eq_true rfl]
      refine iteF ?_
      have R11 := R.keep (Keep.of s11)
      refine ⟨_, rfl, v, t, rfl, R11, fun _ => ⟨_, _, rfl, rfl, _, rfl, ?_⟩, fun z => (z good).elim⟩
      rw [w3]
      refine iteF ?_
      refine ⟨_, rfl, .int few, "int", congrArg (fun z => [V.int z]) efew, ty_int _, by decide, fun wd' h H12 e1 hw2 t12 s12 => ?_, fun z => (z ⟨few, rfl, by omega, by omega⟩).elim⟩
      obtain rfl : few = wd' := by
        have := V.int.inj e1
        omega
      refine ⟨_, rfl, few, congrArg (fun z => [V.int z]) efew, by omega, fun h' H13 t13 s13 => ?_⟩
      obtain rfl := t12.uniq t13
      refine ⟨_, _, rfl, _, rfl, ?_⟩
      rw [decide_eq_true rfl]
      refine iteF ?_
      refine ⟨_, rfl, v, t, rfl, R11.keep (Keep.of (s12.trans s13)), fun _ => ?_, fun z => (z good).elim⟩
      refine ⟨_, rfl, t.wid, few, congrArg (fun z => [V.int (t.wid : Nat), .int z]) efew, _, rfl, ?_⟩
      rw [w1, decide_eq_true rfl]
      refine iteF ?_
      refine ⟨s0.trans ?_, _, _, _, _, _, _, _, rfl⟩
      have B13 : But p H1 H13 := ((B6.trans (But.of ((s7.trans s8).trans s9))).trans b10).trans (But.of ((s11.trans s12).trans s13))
      exact Same.but s1 np B13
    · rintro σ H' ⟨sm, x1, x2, x3, x4, x5, x6, x7, rfl⟩
      exact q _
end

end EM
open PySem PySem.W PyProof.Rows
set_option maxRecDepth 100000 in
set_option maxHeartbeats 0 in
theorem PySem.Challenge.cw_everymatch_k60_tallest_by_least_widths_holds : PySem.Challenge.rw_everymatch_k60_tallest_by_least_widths.Holds := by
  w_on; o_law; k_head; (case hw => w_witness2)
  k_fill
  refine L2.walk_ofB (l := PySem.Challenge.rw_everymatch_k60_tallest_by_least_widths) (n := 63) (k := 60) (x := "script") (CX := fun w => L2.CX PySem.Challenge.rw_everymatch_k60_tallest_by_least_widths.prog w) (sp := fun w => EM.spLaw _) rfl (by decide) rfl ⟨rfl, by decide, by decide⟩ (fun w h Y => PySem.W.kIn_of Y) ?F (fun _ _ a ns hl hb _ hS => ⟨a, ns, rfl, hS, hl, fun z hz => EM.bits_log2 (hb z hz), fun _ => rfl⟩) (fun _ _ _ _ _ h => EM.cx_none h)
  case F =>
    intro w mg fa h KX G hmg
    refine' EM.law_mk KX G hmg ?al ?ll ?cl ?kl (fun s v => .of_eq rfl) (fun base fd F => EM.ok_law F (EM.Top.mk (EM.defAt_mk KX G ?a1 ?l2 ?c3 ?k4 (fun _ _ _ _ _ _ us hl => match us, hl with | [_], _ => rfl))
        (EM.defAtD_mk 1 (by intro z; cases z) rfl KX G ?a5 ?l6 ?c7 ?k8 ?t9 (.cons rfl .nil) (fun j hj T kV doc pm an cdv ct us its h1 h2 => by
      rcases hj with rfl | rfl
      · match us, its, h1, h2 with
        | [_], [_], _, _ => exact ⟨_, rfl, rfl⟩
      · match us, its, h1, h2 with
        | [_, _], [_], _, _ => exact ⟨_, rfl, rfl⟩))
        (EM.defAt_mk KX G ?a10 ?l11 ?c12 ?k13 (fun _ _ _ _ _ _ us hl => match us, hl with | [_], _ => rfl))
        (EM.defAt_mk KX G ?a14 ?l15 ?c16 ?k17 (fun _ _ _ _ _ _ us hl => match us, hl with | [_, _], _ => rfl))
        (EM.defAt_mk KX G ?a18 ?l19 ?c20 ?k21 (fun _ _ _ _ _ _ us hl => match us, hl with | [_], _ => rfl))
        (EM.defAt_mk KX G ?a22 ?l23 ?c24 ?k25 (fun _ _ _ _ _ _ us hl => match us, hl with | [_], _ => rfl))
        (EM.defAt_mk KX G ?a26 ?l27 ?c28 ?k29 (fun _ _ _ _ _ _ us hl => match us, hl with | [_], _ => rfl))
        (EM.defAt_mk KX G ?a30 ?l31 ?c32 ?k33 (fun _ _ _ _ _ _ us hl => match us, hl with | [_], _ => rfl))
        (EM.defAt_mk KX G ?a34 ?l35 ?c36 ?k37 (fun _ _ _ _ _ _ us hl => match us, hl with | [_], _ => rfl))
        (EM.defAt_mk KX G ?a38 ?l39 ?c40 ?k41 (fun _ _ _ _ _ _ us hl => match us, hl with | [_], _ => rfl))
        (EM.defAt_mk KX G ?a42 ?l43 ?c44 ?k45 (fun _ _ _ _ _ _ us hl => match us, hl with | [_], _ => rfl))
        (EM.defAt_mk KX G ?a46 ?l47 ?c48 ?k49 (fun _ _ _ _ _ _ us hl => match us, hl with | [_, _], _ => rfl))
        (EM.defAt_mk KX G ?a50 ?l51 ?c52 ?k53 (fun _ _ _ _ _ _ us hl => match us, hl with | [_, _], _ => rfl))
        (EM.defAt_mk KX G ?a54 ?l55 ?c56 ?k57 (fun _ _ _ _ _ _ us hl => match us, hl with | [_, _], _ => rfl))
        (EM.defAt_mk KX G ?a58 ?l59 ?c60 ?k61 (fun _ _ _ _ _ _ us hl => match us, hl with | [_], _ => rfl))
        (EM.defAt_mk KX G ?a62 ?l63 ?c64 ?k65 (fun _ _ _ _ _ _ us hl => match us, hl with | [_], _ => rfl))
        (EM.defAt_mk KX G ?a66 ?l67 ?c68 ?k69 (fun _ _ _ _ _ _ us hl => match us, hl with | [_, _, _], _ => rfl))
        (EM.defAt_mk KX G ?a70 ?l71 ?c72 ?k73 (fun _ _ _ _ _ _ us hl => match us, hl with | [_], _ => rfl))
        (EM.defAt_mk KX G ?a74 ?l75 ?c76 ?k77 (fun _ _ _ _ _ _ us hl => match us, hl with | [_], _ => rfl))
        (EM.defAt_mk KX G ?a78 ?l79 ?c80 ?k81 (fun _ _ _ _ _ _ us hl => match us, hl with | [_, _], _ => rfl))
        (PySem.W.mg_none_of KX G ?z82)
        (PySem.W.mg_none_of KX G ?z83)
        (PySem.W.mg_none_of KX G ?z84)
        (PySem.W.mg_none_of KX G ?z85)
        (PySem.W.mg_none_of KX G ?z86)
        (PySem.W.mg_none_of KX G ?z87)
        (PySem.W.mg_none_of KX G ?z88)
        (PySem.W.mg_none_of KX G ?z89)
        (PySem.W.mg_none_of KX G ?z90)
        (PySem.W.mg_none_of KX G ?z91)
        (PySem.W.mg_none_of KX G ?z92)
        (EM.con_mk KX G ?v93 ?r94)
        (EM.con_mk KX G ?v95 ?r96)
        (EM.excAt_mk KX G ?e97 ?x98 ?k99 ?b100 ?y101 ?i102 ?s103)
        (EM.excAt_mk KX G ?e104 ?x105 ?k106 ?b107 ?y108 ?i109 ?s110)
        (EM.excAt_mk KX G ?e111 ?x112 ?k113 ?b114 ?y115 ?i116 ?s117)))
    (case a1 => k_is); (case l2 => k_is); (case c3 => k_is); (case k4 => k_is); (case a5 => k_is); (case l6 => k_is)
    (case c7 => k_is); (case k8 => k_is); (case t9 => k_is); (case a10 => k_is); (case l11 => k_is); (case c12 => k_is)
    (case k13 => k_is); (case a14 => k_is); (case l15 => k_is); (case c16 => k_is); (case k17 => k_is); (case a18 => k_is)
    (case l19 => k_is); (case c20 => k_is); (case k21 => k_is); (case a22 => k_is); (case l23 => k_is); (case c24 => k_is)
    (case k25 => k_is); (case a26 => k_is); (case l27 => k_is); (case c28 => k_is); (case k29 => k_is); (case a30 => k_is)
    (case l31 => k_is); (case c32 => k_is); (case k33 => k_is); (case a34 => k_is); (case l35 => k_is); (case c36 => k_is)
    (case k37 => k_is); (case a38 => k_is); (case l39 => k_is); (case c40 => k_is); (case k41 => k_is); (case a42 => k_is)
    (case l43 => k_is); (case c44 => k_is); (case k45 => k_is); (case a46 => k_is); (case l47 => k_is); (case c48 => k_is)
    (case k49 => k_is); (case a50 => k_is); (case l51 => k_is); (case c52 => k_is); (case k53 => k_is); (case a54 => k_is)
    (case l55 => k_is); (case c56 => k_is); (case k57 => k_is); (case a58 => k_is); (case l59 => k_is); (case c60 => k_is)
    (case k61 => k_is); (case a62 => k_is); (case l63 => k_is); (case c64 => k_is); (case k65 => k_is); (case a66 => k_is)
    (case l67 => k_is); (case c68 => k_is); (case k69 => k_is); (case a70 => k_is); (case l71 => k_is); (case c72 => k_is)
    (case k73 => k_is); (case a74 => k_is); (case l75 => k_is); (case c76 => k_is); (case k77 => k_is); (case a78 => k_is)
    (case l79 => k_is); (case c80 => k_is); (case k81 => k_is); (case z82 => k_is); (case z83 => k_is); (case z84 => k_is)
    (case z85 => k_is); (case z86 => k_is); (case z87 => k_is); (case z88 => k_is); (case z89 => k_is); (case z90 => k_is)
    (case z91 => k_is); (case z92 => k_is); (case v93 => k_is); (case r94 => exact ⟨_, rfl⟩); (case v95 => k_is); (case r96 => exact ⟨_, rfl⟩)
    (case e97 => k_is); (case x98 => k_exc); (case k99 => k_is); (case b100 => k_is); (case y101 => k_is); (case i102 => k_is)
    (case s103 => first | rfl | k_is); (case e104 => k_is); (case x105 => k_exc); (case k106 => k_is); (case b107 => k_is); (case y108 => k_is)
    (case i109 => k_is); (case s110 => first | rfl | k_is); (case e111 => k_is); (case x112 => k_exc); (case k113 => k_is); (case b114 => k_is)
    (case y115 => k_is); (case i116 => k_is); (case s117 => first | rfl | k_is)
    (case al => k_is); (case ll => k_is); (case cl => k_is); (case kl => k_is)
