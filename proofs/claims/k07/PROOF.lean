import PyProof.Rows.All
import Wide.All
import OpenK.AllK
import Wide.FinOn
import HandS.ForMost
import HandS.ForExc
import HandS.IsInst
import HandS.Style
import HandS.Wide
import HandS.Codes
import HandS.Defaults
import HandS.EndBits
import HandS.Conv
import HandS.TupAny
import KE.GoesMore
import KE.GoesEnum
import KE.KxText
import KE.DataMinMax
import HandS.SortKw
import PyProof.ReprBulk
import PySem.Challenge.RW_everymatch_k07_depth_and_breadth
set_option Elab.async false
set_option linter.all false
set_option maxRecDepth 100000
set_option maxHeartbeats 4000000
namespace EM
open PySem PySem.Spec PyProof.Rows L2
/-! ### the top's facts, in short forms -/
/-- a def of the top without defaults -/
structure DefAt (K : PySem.W.Frag) (mg : Str → Option Value) (x : Str) (st : Stmt) (ps : List Str) : Prop where
  ex : ∃ (f : Addr) (fd : FuncData), mg x = some (.ref f) ∧ Fun K x x st f fd ∧ Binds K fd ps []
/-- a def with defaults dvs (all of them lacking, or none) -/
structure DefAtD (K : PySem.W.Frag) (mg : Str → Option Value) (x : Str) (st : Stmt) (ps : List Str) (dvs : List V) : Prop where
  ex : ∃ (f : Addr) (fd : FuncData), mg x = some (.ref f) ∧ FunD K x x (defArgs st) (defBody st) (defScope st) dvs [] f fd ∧ Binds K fd ps [] ∧ ∃ ds, Vals dvs ds ∧ Binds K fd ps ds
structure ExcAt (K : PySem.W.Frag) (mg : Str → Option Value) (x : Str) (C : Addr) : Prop where
  g : mg x = some (.ref C)
  x : PySem.W.excIn K C [.type "ValueError", .type "Exception", .type "BaseException", .type "object"] "ValueError.__new__" = true
  k : PySem.W.keepIn K (.ref C) = true
  b : PySem.W.subIn K (.ref C) (.type "BaseException") = some true
  t : PySem.W.typeIn K (.ref C) = some (.type "type")
  m : PySem.W.exmOne K (.ref C) (.ref C) = some true
/-- a def that keeps its promise, by its name -/
structure Cl (P : Program) (w : World) (K : PySem.W.Frag) (mg : Str → Option Value) (base : Heap) (k : Nat) (x : Str) (ps : List Str) (sp : Sp) : Prop where
  ex : ∃ (f : Addr) (fd : FuncData), FnOk P w K mg base (L2.CX P w) k f fd ps sp ∧ mg x = some (.ref f) ∧ PySem.W.keepIn K (.ref f) = true ∧ Binds K fd ps []
section
variable {P : Program} {w : World} {K : PySem.W.Frag} {mg : Str → Option Value} {base : Heap}
theorem DefAt.ok {x : Str} {st : Stmt} {N ps : List Str} {k : Nat} {sp : Sp} (D : DefAt K mg x st ps) (S : FnScope N ps (defScope st)) (len : ∀ vs H Q E, sp vs H Q E → vs.length = ps.length)
    (hbody : ∀ (f : Addr) (cdv : Value) (A : Around) (outer : List Env) (s : Shared) (H : Hp) (vs : List V) (Q : VK) (E : XK), Room k (A.deeper (envOfC x (defScope st) s.heap.objs.size f cdv)) → sp vs H Q E →
      ∃ t, PSs (cxOf (L2.CX P w) P w K mg base N x (defScope st) f cdv A outer s H E) (defBody st) t ∧ t { nx := fun _ H' => Q .non H', rt := Q } (start N vs) H) : Cl P w K mg base (k + 1) x ps sp := by
  obtain ⟨f, fd, hm, F, hb⟩ := D.ex
  exact ⟨f, fd, F.okX S len fun cdv A outer s H vs Q E hr h => hbody f cdv A outer s H vs Q E hr h, hm, F.kp, hb⟩
theorem DefAtD.ok {x : Str} {st : Stmt} {N ps : List Str} {dvs : List V} {k : Nat} {sp : Sp} (D : DefAtD K mg x st ps dvs) (S : FnScope N ps (defScope st)) (len : ∀ vs H Q E, sp vs H Q E → vs.length = ps.length)
    (hbody : ∀ (f : Addr) (cdv : Value) (A : Around) (outer : List Env) (s : Shared) (H : Hp) (vs : List V) (Q : VK) (E : XK), Room k (A.deeper (envOfC x (defScope st) s.heap.objs.size f cdv)) → sp vs H Q E →
      ∃ t, PSs (cxOf (L2.CX P w) P w K mg base N x (defScope st) f cdv A outer s H E) (defBody st) t ∧ t { nx := fun _ H' => Q .non H', rt := Q } (start N vs) H) : Cl P w K mg base (k + 1) x ps sp := by
  obtain ⟨f, fd, hm, F, hb, _⟩ := D.ex
  exact ⟨f, fd, F.ok S len fun cdv A outer s H vs Q E hr h => hbody f cdv A outer s H vs Q E hr h, hm, F.kp, hb⟩
/-- a promise that is never asked -/
theorem DefAt.never {x : Str} {st : Stmt} {ps : List Str} {k : Nat} {sp : Sp} (D : DefAt K mg x st ps) (h : ∀ vs H Q E, ¬ sp vs H Q E) : Cl P w K mg base k x ps sp := by
  obtain ⟨f, fd, hm, F, hb⟩ := D.ex
  exact ⟨f, fd, ⟨fun vs H Q E z => (h vs H Q E z).elim, fun A outer s H args us vs Q E _ _ _ _ z => (h vs H Q E z).elim⟩, hm, F.kp, hb⟩
theorem Cl.mono {x : Str} {ps : List Str} {sp : Sp} {j k : Nat} (c : Cl P w K mg base j x ps sp) (h : j ≤ k) : Cl P w K mg base k x ps sp := by
  obtain ⟨f, fd, F, r⟩ := c.ex
  exact ⟨f, fd, F.mono h, r⟩
theorem Cl.imp {x : Str} {ps : List Str} {sp sp' : Sp} {k : Nat} (c : Cl P w K mg base k x ps sp) (h : ∀ vs H Q E, sp' vs H Q E → sp vs H Q E) : Cl P w K mg base k x ps sp' := by
  obtain ⟨f, fd, F, r⟩ := c.ex
  exact ⟨f, fd, F.imp h, r⟩
end
section
variable {X : Cx} {k j : Nat} {x : Str} {ps : List Str} {sp : Sp} {e : Expr} {es : List Expr} {t : TA} {p pos : Pos} {E : XK} {W : WX}
/-- f(..), which raises nothing here -/
theorem pcN (c : Cl X.prog X.w X.K X.mg X.base k x ps sp) (hr : Room j X.A) (hk : k ≤ j) (ha : PA X (e :: es) t) (hg : Gl X x := by rfl)
    (hdb : (x == ("__debug__" : Str)) = false := by decide) (he : starEach (e :: es) X.env = (false, eval e X.env) :: starEach es X.env := by rfl) (hpl : (backTo pos (starEach es X.env)).any (·.1) = false := by rfl) :
    PE X (.Call (.Name x p) (e :: es) [] pos) (tCall sp [] E0 t) := by
  obtain ⟨f, fd, F, hm, kp, b⟩ := c.ex
  exact pe_call F (hr.mono hk) hg hm kp b .nil passL ha hdb he hpl
/-- f(..), what it raises goes on to where the def's own errors go -/
theorem pcT (c : Cl X.prog X.w X.K X.mg X.base k x ps sp) (hr : Room j X.A) (hk : k ≤ j) (tk : Takes X fun cls d _ H => E cls d H) (ha : PA X (e :: es) t) (hg : Gl X x := by rfl)
    (hdb : (x == ("__debug__" : Str)) = false := by decide) (he : starEach (e :: es) X.env = (false, eval e X.env) :: starEach es X.env := by rfl) (hpl : (backTo pos (starEach es X.env)).any (·.1) = false := by rfl) :
    PE X (.Call (.Name x p) (e :: es) [] pos) (tCall sp [] E t) := by
  obtain ⟨f, fd, F, hm, kp, b⟩ := c.ex
  exact pe_call F (hr.mono hk) hg hm kp b .nil (passes_call tk fun _ _ _ _ h => h) ha hdb he hpl
/-- f(..) in a try's body -/
theorem pcS (c : Cl X.prog X.w X.K X.mg X.base k x ps sp) (hr : Room j X.A) (hk : k ≤ j) (tk : Takes X W) (ha : PA X (e :: es) t) (hg : Gl X x := by rfl)
    (hdb : (x == ("__debug__" : Str)) = false := by decide) (he : starEach (e :: es) X.env = (false, eval e X.env) :: starEach es X.env := by rfl) (hpl : (backTo pos (starEach es X.env)).any (·.1) = false := by rfl) :
    PE X (.Call (.Name x p) (e :: es) [] pos) (tCallS sp (WE W) t) := by
  obtain ⟨f, fd, F, hm, kp, b⟩ := c.ex
  exact pe_callS F (hr.mono hk) hg hm kp b (fun σ => passAt tk σ) ha hdb he hpl
end
/-! ### kinds of values -/
theorem ty_int {K : PySem.W.Frag} {H : Hp} (i : Int) : TyX K H (.int i) (.type "int") := .base (.int i)
theorem ty_bl {K : PySem.W.Frag} {H : Hp} (i : Bool) : TyX K H (.bl i) (.type "bool") := .base (.bl i)
theorem ty_non {K : PySem.W.Frag} {H : Hp} : TyX K H .non (.type "NoneType") := .base .non
theorem ty_str {K : PySem.W.Frag} {H : Hp} (i : Str) : TyX K H (.str i) (.type "str") := .base (.str i)
theorem ty_l {K : PySem.W.Frag} {H : Hp} {a : Addr} {xs : List V} (h : SqL K H a xs) : TyX K H (.ref a) (.type "list") := by
  rcases h with (h | ⟨o, h⟩) | ⟨o, its, n, h1, h2, _⟩
  · exact .base (.lst h)
  · exact .base (.frz h)
  · exact .kList h1 h2
theorem ty_t {K : PySem.W.Frag} {H : Hp} {a : Addr} {xs : List V} (h : SqT K H a xs) : TyX K H (.ref a) (.type "tuple") := by
  rcases h with (h | ⟨o, h⟩) | ⟨o, its, n, h1, h2, _⟩
  · exact .base (.tup h)
  · exact .fTuple h
  · exact .kTuple h1 h2
theorem sqL_of {K : PySem.W.Frag} {H : Hp} {a : Addr} {xs : List V} (h : H a = some (.lst xs)) : SqL K H a xs := .inl (.inl h)
theorem sqT_of {K : PySem.W.Frag} {H : Hp} {a : Addr} {xs : List V} (h : H a = some (.tup xs)) : SqT K H a xs := .inl (.inl h)
theorem same_new {H : Hp} {p : Addr} {o : HO} (h : H p = none) : Same H (upd H p o) := fun b x e => by
  rw [upd_ne (ne_of_none e h)]
  exact e
theorem Same.seqT {K : PySem.W.Frag} {H H' : Hp} {a : Addr} {xs : List V} (e : Same H H') (h : SqT K H a xs) : SqT K H' a xs := by
  rcases h with (h | ⟨o, h⟩) | h
  · exact .inl (.inl (e _ _ h))
  · exact .inl (.inr ⟨o, e _ _ h⟩)
  · exact .inr h
/-- all but what stands at p is as it was -/
def But (p : Addr) (H H' : Hp) : Prop := ∀ b o, b ≠ p → H b = some o → H' b = some o
theorem But.refl (p : Addr) (H : Hp) : But p H H := fun _ _ _ h => h
theorem But.trans {p : Addr} {H H1 H2 : Hp} (a : But p H H1) (b : But p H1 H2) : But p H H2 := fun c o n h => b c o n (a c o n h)
theorem But.of {p : Addr} {H H' : Hp} (s : Same H H') : But p H H' := fun c o _ h => s c o h
theorem but_upd {p : Addr} {H : Hp} {o : HO} : But p H (upd H p o) := fun c u n h => by rw [upd_ne n]; exact h
theorem But.seqT {K : PySem.W.Frag} {H H' : Hp} {a p : Addr} {xs ys : List V} (e : But p H H') (hp : H p = some (.lst ys)) (h : SqT K H a xs) : SqT K H' a xs := by
  rcases h with (h | ⟨o, h⟩) | h
  · exact .inl (.inl (e _ _ (ne_of h hp (fun z => by cases z)) h))
  · exact .inl (.inr ⟨o, e _ _ (ne_of h hp (fun z => by cases z)) h⟩)
  · exact .inr h
theorem But.seqL {K : PySem.W.Frag} {H H' : Hp} {a p : Addr} {xs : List V} (e : But p H H') (n : a ≠ p) (h : SqL K H a xs) : SqL K H' a xs := by
  rcases h with (h | ⟨o, h⟩) | h
  · exact .inl (.inl (e _ _ n h))
  · exact .inl (.inr ⟨o, e _ _ n h⟩)
  · exact .inr h
theorem seqL_off {K : PySem.W.Frag} {H H1 H' : Hp} {a p : Addr} {xs : List V} (hS : SqL K H a xs) (np : H p = none) (s : Same H H1) (b : But p H1 H') : SqL K H' a xs := by
  have ne : ∀ o, H a = some o → a ≠ p := fun o h z => by rw [z, np] at h; cases h
  rcases hS with (h | ⟨o, h⟩) | h
  · exact .inl (.inl (b a _ (ne _ h) (s _ _ h)))
  · exact .inl (.inr ⟨o, b a _ (ne _ h) (s _ _ h)⟩)
  · exact .inr h
theorem ty_int_inv {K : PySem.W.Frag} {H : Hp} {v : V} (h : TyX K H v (.type "int")) : ∃ i, v = .int i := by
  generalize ht : Value.type "int" = t at h
  cases h with
  | base b => cases b <;> first | exact ⟨_, rfl⟩ | (exfalso; revert ht; simp)
  | _ => exfalso; revert ht; simp
theorem ty_int_val {K : PySem.W.Frag} {H : Hp} {i : Int} {n : String} (h : TyX K H (.int i) (.type n)) : n = "int" := by
  cases h with
  | base b => cases b; rfl
theorem ty_non_val {K : PySem.W.Frag} {H : Hp} {n : String} (h : TyX K H .non (.type n)) : n = "NoneType" := by
  cases h with
  | base b => cases b; rfl
/-- all that was tracked is there; lists may have changed -/
def Keep (H H' : Hp) : Prop := ∀ a o, H a = some o → H' a = some o ∨ ∃ xs ys, o = .lst xs ∧ H' a = some (.lst ys)
theorem Keep.refl (H : Hp) : Keep H H := fun _ _ h => .inl h
theorem Keep.of {H H' : Hp} (s : Same H H') : Keep H H' := fun a o h => .inl (s a o h)
theorem Keep.trans {H H1 H2 : Hp} (a : Keep H H1) (b : Keep H1 H2) : Keep H H2 := fun c o h => by
  rcases a c o h with e | ⟨xs, ys, rfl, e⟩
  · exact b c o e
  · rcases b c _ e with e2 | ⟨us, ws, _, e2⟩
    · exact .inr ⟨xs, ys, rfl, e2⟩
    · exact .inr ⟨xs, ws, rfl, e2⟩
theorem Keep.but {H H' : Hp} {p : Addr} {xs ys : List V} (b : But p H H') (h : H p = some (.lst xs)) (h' : H' p = some (.lst ys)) : Keep H H' := fun a o e => by
  by_cases n : a = p
  · subst n
    rw [h] at e
    cases e
    exact .inr ⟨xs, ys, rfl, h'⟩
  · exact .inl (b a o n e)
theorem Keep.upd {H : Hp} {p : Addr} {xs ys : List V} (h : H p = some (.lst xs)) : Keep H (upd H p (.lst ys)) := Keep.but but_upd h upd_same
theorem Keep.seqT {K : PySem.W.Frag} {H H' : Hp} {a : Addr} {xs : List V} (e : Keep H H') (h : SqT K H a xs) : SqT K H' a xs := by
  rcases h with (h | ⟨o, h⟩) | h
  · rcases e _ _ h with h | ⟨_, _, z, _⟩
    · exact .inl (.inl h)
    · cases z
  · rcases e _ _ h with h | ⟨_, _, z, _⟩
    · exact .inl (.inr ⟨o, h⟩)
    · cases z
  · exact .inr h
theorem Keep.ty {K : PySem.W.Frag} {H H' : Hp} {v : V} {n : String} (e : Keep H H') (h : TyX K H v (.type n)) : TyX K H' v (.type n) := by
  have k : ∀ {a : Addr} {o : HO}, H a = some o → (∀ xs, o ≠ .lst xs) → H' a = some o := fun h n => by
    rcases e _ _ h with h | ⟨xs, _, z, _⟩
    · exact h
    · exact absurd z (n xs)
  generalize ht : Value.type n = t at h
  cases h with
  | base b =>
    cases b with
    | non => exact .base .non
    | bl x => exact .base (.bl x)
    | int i => exact .base (.int i)
    | str x => exact .base (.str x)
    | flt x => exact .base (.flt x)
    | lst h =>
      rcases e _ _ h with h | ⟨_, _, _, h⟩
      · exact .base (.lst h)
      · exact .base (.lst h)
    | frz h => exact .base (.frz (k h fun _ z => by cases z))
    | tup h => exact .base (.tup (k h fun _ z => by cases z))
    | dK h => exact .base (.dK (k h fun _ z => by cases z))
    | dT h => exact .base (.dT (k h fun _ z => by cases z))
    | ins h => cases ht
  | byt b => exact .byt b
  | set h => exact .set (k h fun _ z => by cases z)
  | kList h c => exact .kList h c
  | kTuple h c => exact .kTuple h c
  | kDict h c => exact .kDict h c
  | fTuple h => exact .fTuple (k h fun _ z => by cases z)
  | fDict h => exact .fDict (k h fun _ z => by cases z)
theorem Keep.free {H H' : Hp} (e : Keep H H') {l : Addr} (h : H' l = none) : H l = none := by
  cases q : H l with
  | none => rfl
  | some o =>
    rcases e l o q with z | ⟨_, _, _, z⟩ <;> (rw [h] at z; cases z)
/-- the kinds of things that a law hands in -/
def kinds : List String := ["NoneType", "bool", "int", "str", "list", "tuple", "dict"]
theorem atI_neg1 {α : Type} {xs : List α} {v : α} (h : xs[xs.length - 1]? = some v) : atI xs (-1) = some v := by
  have hl : xs.length - 1 < xs.length := (List.getElem?_eq_some_iff.mp h).1
  unfold atI ixN
  rw [if_neg (by decide), if_pos (by omega)]
  show xs[((-1 : Int) + xs.length).toNat]? = some v
  rw [show ((-1 : Int) + xs.length).toNat = xs.length - 1 by omega]
  exact h
/-- an expression whose value is known: its ways are gone once -/
theorem val_go {te : TE} {σ : L2.St} {H : Hp} {Q : VK} (v : V) (h : ∀ Q : VK, Q v H → te σ H Q) (q : Q v H) : te σ H Q := h Q q
theorem val_goS {te : TE} {σ : L2.St} {H : Hp} {Q : VK} (v : V) (h : ∀ Q : VK, (∀ H', Same H H' → Q v H') → te σ H Q) (q : ∀ H', Same H H' → Q v H') : te σ H Q := h Q q
theorem tst_go {te : TT} {σ : L2.St} {H : Hp} {Q : Bool → Hp → Prop} (v : Bool) (h : ∀ Q : Bool → Hp → Prop, Q v H → te σ H Q) (q : Q v H) : te σ H Q := h Q q
/-- a node as a value -/
def nV (n : Nat) : V := .int n
/-! ### products of great ints -/
def CMulX (i j : Int) : Prop := i.natAbs.log2 + j.natAbs.log2 < 100000000
theorem CMulX.ok {i j : Int} (h : CMulX i j) : IntMulOk i j := by
  have b : ∀ x : Int, Builtin.Int.intBits x ≤ x.natAbs.log2 + 1 := fun x => by
    unfold Builtin.Int.intBits
    split <;> omega
  have h1 := b i
  have h2 := b j
  have h3 : i.natAbs.log2 + j.natAbs.log2 < 100000000 := h
  have e : bitsLine = 134217728 := by decide
  unfold IntMulOk
  intro z
  rw [Bool.and_eq_true] at z
  have z2 := z.2
  unfold Builtin.Int.intTooBig at z2
  have z3 := of_decide_eq_true z2
  rw [e] at z3
  omega
theorem op_mulX {X : Cx} : OpR X (binaryOp .Mult) (rI CMulX fun i j => .int (i * j)) := opI fun _ _ _ _ _ _ _ hc q => mul_int q hc.ok
theorem log2_le_of {m n : Nat} (h : m ≤ n) : m.log2 ≤ n.log2 := by
  by_cases h0 : m = 0
  · subst h0
    rw [show Nat.log2 0 = 0 by decide]
    exact Nat.zero_le _
  · exact (Nat.le_log2 (by omega)).mpr (Nat.le_trans (Nat.log2_self_le h0) h)
theorem log2_lt_of {m k : Nat} (h : m < 2 ^ k) (hk : 0 < k) : m.log2 < k := PySem.Flt.log2_lt_of hk h
theorem log2_add (a b : Nat) : (a + b).log2 ≤ max a.log2 b.log2 + 1 := by
  have h1 : a < 2 ^ (a.log2 + 1) := Nat.lt_log2_self
  have h2 : b < 2 ^ (b.log2 + 1) := Nat.lt_log2_self
  have m1 : 2 ^ (a.log2 + 1) ≤ 2 ^ (max a.log2 b.log2 + 1) := Nat.pow_le_pow_right (by decide) (by omega)
  have m2 : 2 ^ (b.log2 + 1) ≤ 2 ^ (max a.log2 b.log2 + 1) := Nat.pow_le_pow_right (by decide) (by omega)
  have h3 : a + b < 2 ^ (max a.log2 b.log2 + 2) := by
    rw [show max a.log2 b.log2 + 2 = (max a.log2 b.log2 + 1) + 1 from rfl, Nat.pow_succ]
    omega
  have := log2_lt_of h3 (by omega)
  omega
theorem log2_addI (a b : Int) : (a + b).natAbs.log2 ≤ max a.natAbs.log2 b.natAbs.log2 + 1 :=
  Nat.le_trans (log2_le_of (by omega)) (log2_add a.natAbs b.natAbs)
theorem bits_log2 {z : Int} {n : Nat} (h : Builtin.Int.intBits z ≤ n) : z.natAbs.log2 ≤ n := by
  unfold Builtin.Int.intBits at h
  split at h
  · rename_i e
    rw [show z.natAbs = 0 by simp_all]
    rw [show Nat.log2 0 = 0 by decide]
    exact Nat.zero_le _
  · omega
/-! ### cuts -/
theorem cut_to (xs : List V) (k : Nat) : cutV xs none (some (k : Int)) = xs.take k := by
  unfold cutV
  rw [HT.sIx_nat, HT.sIx_none, Nat.sub_zero, List.drop_zero]
  rcases Nat.le_total k xs.length with h | h
  · rw [Nat.min_eq_left h]
  · rw [Nat.min_eq_right h, List.take_length, List.take_of_length_le h]
theorem cut_from (xs : List V) (k : Nat) : cutV xs (some (k : Int)) none = xs.drop k := by
  unfold cutV
  rw [HT.sIx_nat, HT.sIx_none]
  rcases Nat.le_total k xs.length with h | h
  · rw [Nat.min_eq_left h, List.take_of_length_le (by rw [List.length_drop]; omega)]
  · rw [Nat.min_eq_right h, List.drop_length, List.drop_eq_nil_of_le h, List.take_nil]
theorem cut_mid (xs : List V) (j k : Nat) : cutV xs (some (j : Int)) (some (k : Int)) = (xs.take k).drop j := by
  unfold cutV
  rw [HT.sIx_nat, HT.sIx_nat]
  rcases Nat.le_total j xs.length with h | h
  · rw [Nat.min_eq_left h, List.drop_take]
    rcases Nat.le_total k xs.length with h' | h'
    · rw [Nat.min_eq_left h']
    · rw [Nat.min_eq_right h', List.take_of_length_le (by rw [List.length_drop]; omega), List.take_of_length_le (by rw [List.length_drop]; omega)]
  · rw [Nat.min_eq_right h, List.drop_length, List.take_nil, List.drop_eq_nil_of_le (by rw [List.length_take]; omega)]
/-! ### the feed: what a law draws from -/
structure FeedAt (H : Hp) (p : Addr) (n : Nat) : Prop where
  ex : ∃ x y c : Int, H p = some (.lst [.int x, .int y, .int c]) ∧ 0 ≤ x ∧ x.natAbs.log2 < 2000000 ∧ 0 ≤ y ∧ y < 10 ^ 40 ∧ 0 ≤ c ∧ c ≤ n
theorem FeedAt.mono {H : Hp} {p : Addr} {n m : Nat} (h : FeedAt H p n) (l : n ≤ m) : FeedAt H p m := by
  obtain ⟨x, y, c, h1, h2, h3, h4, h5, h6, h7⟩ := h.ex
  exact ⟨x, y, c, h1, h2, h3, h4, h5, h6, by omega⟩
theorem FeedAt.keep {H H' : Hp} {p : Addr} {n : Nat} (h : FeedAt H p n) (s : ∀ o, H p = some o → H' p = some o) : FeedAt H' p n := by
  obtain ⟨x, y, c, h1, h2⟩ := h.ex
  exact ⟨x, y, c, s _ h1, h2⟩
theorem FeedAt.ne {H : Hp} {p a : Addr} {n : Nat} (h : FeedAt H p n) (na : H a = none) : a ≠ p := by
  obtain ⟨x, y, c, h1, _⟩ := h.ex
  exact fun z => by rw [z, h1] at na; cases na
theorem FeedAt.new {H : Hp} {p a : Addr} {n : Nat} {o : HO} (h : FeedAt H p n) (na : H a = none) : FeedAt (upd H a o) p n := h.keep fun u e => same_new na _ _ e
theorem FeedAt.same {H H' : Hp} {p : Addr} {n : Nat} (h : FeedAt H p n) (s : Same H H') : FeedAt H' p n := h.keep fun u e => s _ _ e
theorem FeedAt.keeps {H H' : Hp} {p : Addr} {n m : Nat} (h : FeedAt H p n) (b : But p H H') (h' : FeedAt H' p m) : Keep H H' := by
  obtain ⟨x, y, c, h1, _⟩ := h.ex
  obtain ⟨x', y', c', h1', _⟩ := h'.ex
  exact Keep.but b h1 h1'
theorem FeedAt.lst {H : Hp} {p : Addr} {n : Nat} (h : FeedAt H p n) : ∃ ys, H p = some (.lst ys) := by
  obtain ⟨x, y, c, h1, h2⟩ := h.ex
  exact ⟨_, h1⟩
/-! ### the top's facts out of the written part -/
section
variable {P : Program} {w : World} {K : PySem.W.Frag} {mg : Str → Option Value} {base : Heap} {h : Heap} {f : Addr} {st : Stmt} {ps : List Str} {x : Str}
theorem defAt_mk {oc : Value} {od an : Option Addr} {osl : Array (Option Value)} {kV doc pm cdv ct : Value} (X : K.In h) (G : h.Ns mainGlobals mg) (a : PySem.W.nsIn K mainGlobals x = some (some (.ref f)))
    (l : K.lookup f = some ⟨oc, od, .func (PySem.W.fnOf x x (defArgs st) (defBody st) (defScope st) .none kV doc pm an cdv ct), osl⟩) (c : PySem.W.codeIn K cdv x = true) (k : PySem.W.keepIn K (.ref f) = true)
    (hb : ∀ (kV doc pm : Value) (an : Option Addr) (cdv ct : Value) (us : List Value), us.length = ps.length → bindArgs (PySem.W.fnOf x x (defArgs st) (defBody st) (defScope st) .none kV doc pm an cdv ct) ⟨us, []⟩ = pure (ps.zip us)) : DefAt K mg x st ps := by
  have F := fun_mk (st := st) l c k
  exact ⟨f, _, PySem.W.mg_of X G a, F, F.binds hb⟩
theorem defAtD_mk {oc oc' : Value} {od an od' : Option Addr} {osl osl' : Array (Option Value)} {kV doc pm cdv ct : Value} {T : Addr} {its : List Value} {nT : Nat} {dvs : List V} (n : Nat) (hd : dvs ≠ []) (hl : n + dvs.length = ps.length) (X : K.In h) (G : h.Ns mainGlobals mg) (a : PySem.W.nsIn K mainGlobals x = some (some (.ref f)))
    (l : K.lookup f = some ⟨oc, od, .func (PySem.W.fnOf x x (defArgs st) (defBody st) (defScope st) (.ref T) kV doc pm an cdv ct), osl⟩) (c : PySem.W.codeIn K cdv x = true) (k : PySem.W.keepIn K (.ref f) = true)
    (lT : K.lookup T = some ⟨oc', od', .seq its.toArray nT, osl'⟩) (hv : Vals dvs its)
    (hb : ∀ (j : Nat), (j = 0 ∨ j = dvs.length) → ∀ (T : Addr) (kV doc pm : Value) (an : Option Addr) (cdv ct : Value) (us its : List Value), us.length + (dvs.length - j) = ps.length → its.length = dvs.length →
      ∃ k, bindArgs (PySem.W.fnOf x x (defArgs st) (defBody st) (defScope st) (.ref T) kV doc pm an cdv ct) ⟨us, []⟩ = seqItems? (.ref T) >>= k ∧ k (some its.toArray) = pure (ps.zip (us ++ its.drop j))) : DefAtD K mg x st ps dvs := by
  have F : FunD K x x (defArgs st) (defBody st) (defScope st) dvs [] f _ := ⟨⟨oc, od, .ref T, kV, doc, pm, an, cdv, ct, osl, rfl, l, c, .inr ⟨hd, T, _, its, nT, rfl, lT, rfl, hv⟩, .inl rfl⟩, k⟩
  refine ⟨f, _, PySem.W.mg_of X G a, F, ?_, ?_⟩
  · obtain ⟨ds, v, b⟩ := F.binds1 ps.length dvs.length hd (by omega) fun T kV doc pm an cdv ct us its h1 h2 => hb dvs.length (.inr rfl) T kV doc pm an cdv ct us its (by omega) h2
    rw [List.drop_length] at v
    cases v
    exact b
  · obtain ⟨ds, v, b⟩ := F.binds1 n 0 hd (by omega) fun T kV doc pm an cdv ct us its h1 h2 => hb 0 (.inl rfl) T kV doc pm an cdv ct us its (by omega) h2
    exact ⟨ds, v, b⟩
/-- an error of the class at S is what «except S» names -/
theorem exm_self {S : Addr} (h1 : PySem.W.subIn K (.ref S) (.type "BaseException") = some true) (h2 : PySem.W.isClsIn K S = true) (h3 : PySem.W.typeIn K (.ref S) = some (.type "type")) (h4 : PySem.W.subIn K (.ref S) (.ref S) = some true) :
    PySem.W.exmOne K (.ref S) (.ref S) = some true := by
  have e1 : (PySem.W.subIn K (.ref S) (.type "BaseException") == some true) = true := by rw [h1] <;> rfl
  have e2 : ((PySem.W.clsIn K S).isSome && PySem.W.typeIn K (.ref S) == some (.type "type")) = true := by
    have h2' : (PySem.W.clsIn K S).isSome = true := h2
    rw [h2', h3] <;> rfl
  show (if (PySem.W.subIn K (.ref S) (.type "BaseException") == some true) = true then (if ((PySem.W.clsIn K S).isSome && PySem.W.typeIn K (.ref S) == some (.type "type")) = true then PySem.W.subIn K (.ref S) (.ref S) else none) else none) = some true
  rw [if_pos e1, if_pos e2]
  exact h4
theorem excAt_mk {S : Addr} (X : K.In h) (G : h.Ns mainGlobals mg) (a : PySem.W.nsIn K mainGlobals x = some (some (.ref S))) (q : PySem.W.excIn K S [.type "ValueError", .type "Exception", .type "BaseException", .type "object"] "ValueError.__new__" = true) (k : PySem.W.keepIn K (.ref S) = true)
    (b : PySem.W.subIn K (.ref S) (.type "BaseException") = some true) (t : PySem.W.typeIn K (.ref S) = some (.type "type")) (i : PySem.W.isClsIn K S = true) (s : PySem.W.subIn K (.ref S) (.ref S) = some true) : ExcAt K mg x S :=
  ⟨PySem.W.mg_of X G a, q, k, b, t, exm_self b i t s⟩
theorem con_mk {v : V} {u : Value} (X : K.In h) (G : h.Ns mainGlobals mg) (a : PySem.W.nsIn K mainGlobals x = some (some u)) (r : RelV v u) : ∃ u, mg x = some u ∧ RelV v u := ⟨u, PySem.W.mg_of X G a, r⟩
theorem cx_none {H : Hp} {s : Shared} {e : Value} {s' : Shared} (h : L2.CX P w [] H s (fun _ _ _ => False) e s') : False := by
  obtain ⟨_, _, _, _, _, _, _, _, _, _, _, _, z⟩ := h
  exact z.elim
/-- the law's own def -/
theorem law_mk {oc : Value} {od an : Option Addr} {osl : Array (Option Value)} {kV doc pm cdv ct : Value} {fa : Addr} {k : Nat} {sp : Sp} (X : K.In h) (G : h.Ns mainGlobals mg) (hfa : mg "law" = some (.ref fa)) (a : PySem.W.nsIn K mainGlobals "law" = some (some (.ref f)))
    (l : K.lookup f = some ⟨oc, od, .func (PySem.W.fnOf "law" "law" (defArgs st) (defBody st) (defScope st) .none kV doc pm an cdv ct), osl⟩) (c : PySem.W.codeIn K cdv "law" = true) (kp : PySem.W.keepIn K (.ref f) = true)
    (hb : ∀ (s : Shared) (v : Value), BindsTo s (PySem.W.fnOf "law" "law" (defArgs st) (defBody st) (defScope st) .none kV doc pm an cdv ct) ⟨[v], []⟩ [("script", v)])
    (ok : ∀ base : Heap, ∀ fd, Fun K "law" "law" st f fd → FnOk P w K mg base (L2.CX P w) k f fd ["script"] sp) :
    ∃ fd : FuncData, (∀ (s : Shared) (v : Value), BindsTo s fd ⟨[v], []⟩ [("script", v)]) ∧ ∀ base : Heap, K.In base → base.Ns mainGlobals mg → FnOk P w K mg base (L2.CX P w) k fa fd ["script"] sp := by
  have e := hfa.symm.trans (PySem.W.mg_of X G a)
  cases e
  exact ⟨_, hb, fun base _ _ => ok base _ (fun_mk (st := st) l c kp)⟩
end
end EM
namespace EM
open PySem PySem.Spec PyProof.Rows L2
/-! ### defs that may show data (repr): nothing is being shown around them -/
structure FnG (P : Program) (w : World) (K : PySem.W.Frag) (mg : Str → Option Value) (base : Heap) (k : Nat) (f : Addr) (fd : FuncData) (ps : List Str) (sp : Sp) : Prop where
  len : ∀ vs H Q E, sp vs H Q E → vs.length = ps.length
  run : ∀ (A : Around) (outer : List Env) (s : Shared) (H : Hp) (args : Args) (us : List Value) (vs : List V) (Q : VK) (E : XK), Room k A → A.guards = some [] → Env0 P w K mg base A outer s H → BindsTo s fd args (ps.zip us) → Vals vs us → sp vs H Q E →
    codeAny (model P w) A (.call (.ref f) args) (CR (L2.CX P w) outer P w H s Q E) s
section
variable {P : Program} {w : World} {K : PySem.W.Frag} {mg : Str → Option Value} {base : Heap}
theorem Fun.okG {x qual : Str} {st : Stmt} {f : Addr} {fd : FuncData} {N ps : List Str} {k : Nat} {sp : Sp} (F : Fun K x qual st f fd) (S : FnScope N ps (defScope st)) (len : ∀ vs H Q E, sp vs H Q E → vs.length = ps.length)
    (hbody : ∀ (cdv : Value) (A : Around) (outer : List Env) (s : Shared) (H : Hp) (vs : List V) (Q : VK) (E : XK), A.guards = some [] → Room k (A.deeper (envOfC qual (defScope st) s.heap.objs.size f cdv)) → sp vs H Q E →
      ∃ t, PSs (cxOf (L2.CX P w) P w K mg base N qual (defScope st) f cdv A outer s H E) (defBody st) t ∧ t { nx := fun _ H' => Q .non H', rt := Q } (start N vs) H) : FnG P w K mg base (k + 1) f fd ps sp := by
  obtain ⟨oc, od, kV, doc, pm, an, cdv, ct, osl, efd, lk, hcd⟩ := F.ex
  refine ⟨len, fun A outer s H args us vs Q E hr hgd e0 hb r hsp => ?_⟩
  rw [efd] at lk hb
  have stays : ∀ b o, base.get? b = some o → s.heap.get? b = some o := fun b o z => (e0.bs b o z).1
  have KX := e0.mod.kin.keeps stays
  have seen : ∀ y ∈ ps.zip us, (defScope st).names.lookup y.1 = some .local ∨ ((defScope st).names.lookup y.1 = some .cell ∧ ((cellsFrom (s.heap.objs.size + 1) (defScope st).names []).lookup y.1).isSome = true) := by
    rintro ⟨n, v⟩ hy
    exact (S.par n (List.of_mem_zip hy).1).imp id fun q => ⟨q, PySem.W.cellsFrom_some _ _ _ (.inl q)⟩
  refine codeAny_call_function hr.depth (KX _ _ lk) rfl S.co S.gen rfl (PySem.W.codeRec_of KX hcd) (hb _ _ _ _ (wpAny_newFunctionEnv_cells S.kind seen fun env he s1 x => ?_))
  cases he
  refine ⟨(e0.mod.nolimit.keeps stays).keeps x.toInCall.keep, codeAny_func ?_⟩
  obtain ⟨t, ht, hq⟩ := hbody cdv A outer s H vs Q E hgd (hr.deeper _) hsp
  have I := inv_start (CX := L2.CX P w) (E := E) (mg := mg) S hr.hd e0 (len _ _ _ _ hsp) r x
  refine wpAny_mono (ht.run [] s1 (start N vs) H _ I hq) (fun fl s' hs => ?_) fun _ _ z => z
  match fl, hs with
  | .ret u, ⟨v, _, H', J, rv, q⟩ => exact ⟨v, H', J.os, J.bare, J.base, J.hok, rv, q⟩
  | .next, ⟨_, H', J, q⟩ => exact ⟨V.non, H', J.os, J.bare, J.base, J.hok, rfl, q⟩
  | .brk, ⟨_, _, _, q⟩ => exact q.elim
  | .cont, ⟨_, _, _, q⟩ => exact q.elim
/-- a def that may show, by its name -/
structure ClG (P : Program) (w : World) (K : PySem.W.Frag) (mg : Str → Option Value) (base : Heap) (k : Nat) (x : Str) (ps : List Str) (sp : Sp) : Prop where
  ex : ∃ (f : Addr) (fd : FuncData), FnG P w K mg base k f fd ps sp ∧ mg x = some (.ref f) ∧ PySem.W.keepIn K (.ref f) = true ∧ Binds K fd ps []
theorem DefAt.okG {x : Str} {st : Stmt} {N ps : List Str} {k : Nat} {sp : Sp} (D : DefAt K mg x st ps) (S : FnScope N ps (defScope st)) (len : ∀ vs H Q E, sp vs H Q E → vs.length = ps.length)
    (hbody : ∀ (f : Addr) (cdv : Value) (A : Around) (outer : List Env) (s : Shared) (H : Hp) (vs : List V) (Q : VK) (E : XK), A.guards = some [] → Room k (A.deeper (envOfC x (defScope st) s.heap.objs.size f cdv)) → sp vs H Q E →
      ∃ t, PSs (cxOf (L2.CX P w) P w K mg base N x (defScope st) f cdv A outer s H E) (defBody st) t ∧ t { nx := fun _ H' => Q .non H', rt := Q } (start N vs) H) : ClG P w K mg base (k + 1) x ps sp := by
  obtain ⟨f, fd, hm, F, hb⟩ := D.ex
  exact ⟨f, fd, Fun.okG F S len fun cdv A outer s H vs Q E hg hr h => hbody f cdv A outer s H vs Q E hg hr h, hm, F.kp, hb⟩
end
section
variable {X : Cx} {k j : Nat} {x : Str} {ps : List Str} {sp : Sp} {e : Expr} {es : List Expr} {t : TA} {p pos : Pos} {E : XK}
/-- such a def is called, raising nothing -/
theorem pgN (c : ClG X.prog X.w X.K X.mg X.base k x ps sp) (hg0 : X.A.guards = some []) (hr : Room j X.A) (hk : k ≤ j) (ha : PA X (e :: es) t) (hg : Gl X x := by rfl)
    (hdb : (x == ("__debug__" : Str)) = false := by decide) (he : starEach (e :: es) X.env = (false, eval e X.env) :: starEach es X.env := by rfl) (hpl : (backTo pos (starEach es X.env)).any (·.1) = false := by rfl) :
    PE X (.Call (.Name x p) (e :: es) [] pos) (tCall sp [] E0 t) := by
  obtain ⟨f, fd, F, hm, kp, b⟩ := c.ex
  refine ⟨fun pins s σ H Q I h => wpAny_Call_Name_kw (ld_glob I hg hm (PySem.W.callWith_K (h₀ := X.base) I.ok.mod.kin kp (thn (ha.run pos pins s σ H _ I h) fun us s1 hh => ?_) he hpl) hdb)⟩
  obtain ⟨vs, H1, I1, r, q⟩ := hh
  have q : sp (vs ++ []) H1 Q E0 := q
  rw [List.append_nil] at q
  have hl : us.length = ps.length := r.length.symm.trans (F.len _ _ _ _ q)
  have hb := b s1 us I1.kIn (by rw [List.append_nil]; exact hl)
  rw [List.append_nil] at hb
  refine ⟨I1.kIn, wpAny_call (codeAny_mono (F.run X.A X.stack s1 H1 ⟨us, []⟩ us vs Q E0 (hr.mono hk) hg0 I1.env0 hb r q) fun rr s' hq => ?_)⟩
  match rr, hq with
  | .error z, hq => exact passL pins σ H1 s1 z s' I1 hq
  | .ok (.ret u), hq => exact I1.after hq
  | .ok .next, hq => exact (show False from hq).elim
  | .ok .brk, hq => exact (show False from hq).elim
  | .ok .cont, hq => exact (show False from hq).elim
/-- what repr(..) of data gives -/
def rShow (K : PySem.W.Frag) : List V → Hp → VK → Prop := fun vs H Q => ∃ v d, vs = [v] ∧ Dp K H v d ∧ d.showable = true ∧ d.hasDict = false ∧ d.depth ≤ 60 ∧ d.shown.length ≤ sizeLine ∧ Q (.str d.shown) H
theorem call_repr (hg0 : X.A.guards = some []) (hr : Room k X.A) : CallR X (.builtin "repr") (rShow X.K) := by
  intro pins s σ H vs us Q I r h
  obtain ⟨v, d, rfl, hd, h1, h2, h3, h4, q⟩ := h
  obtain ⟨u, rfl, rv⟩ := vals1 r
  obtain ⟨as, R⟩ := Dp.reads I d v u hd rv
  cases R with
  | none => exact PySem.P.repr_of_none ⟨.str _, H, I.tok _, ⟨_, rfl⟩, q⟩
  | bool b => exact PySem.P.repr_of_bool ⟨.str _, H, I.tok _, ⟨_, rfl⟩, q⟩
  | int i t => exact PySem.P.repr_of_int (by simpa [PyData.showable] using h1) ⟨.str _, H, I.tok _, ⟨_, rfl⟩, q⟩
  | str x t => exact PySem.P.repr_of_str ⟨.str _, H, I.tok _, ⟨_, rfl⟩, q⟩ h4
  | list a b c e => 
    exact repr_of_reads' (.list a b c e) h1 (PyData.noDict_hsm h2) hg0 (by have := hr.units; omega) (fun _ _ z => z) (fun h' u tk hk => ⟨.str _, H, I.kept (t' := tk) hk, ⟨_, rfl⟩, q⟩) h4
  | tuple a b c e =>
    exact repr_of_reads' (.tuple a b c e) h1 (PyData.noDict_hsm h2) hg0 (by have := hr.units; omega) (fun _ _ z => z) (fun h' u tk hk => ⟨.str _, H, I.kept (t' := tk) hk, ⟨_, rfl⟩, q⟩) h4
  | dict => cases hd
end
/-! ### the law's end, for a law that shows -/
section
variable {P : Program} {w : World} {K : PySem.W.Frag} {mg mb : Str → Option Value} {k : Nat} {fa a : Addr} {fd : FuncData} {sp : Sp} {s1 : Shared} {us : List Value} {ns : List Int}
/-- from an abstract heap that tracks the script at most -/
theorem lawG_core {H : Hp} (KX : K.In s1.heap) (hns : s1.heap.Ns mainGlobals mg) (hb : s1.heap.Ns builtinsNs mb) (hbb : ∀ x : Str, x ≠ "__name__" → mb x = bootBuiltins x) (hlim : s1.heap.NoLimit) (hg : s1.gens = #[])
    (ha : s1.heap.get? a = some { cls := .type "list", data := .seq us.toArray }) (hr : Room k callerA)
    (F : ∀ base : Heap, K.In base → base.Ns mainGlobals mg → FnG P w K mg base k fa fd ["script"] sp) (hbind : ∀ (s : Shared) (u : Value), BindsTo s fd ⟨[u], []⟩ [("script", u)])
    (hO : Only H) (hok : HOk P w H s1.heap) (hA : ∀ b, H b ≠ none → b = a) (hK : H a ≠ none → K.lookup a = none) (hsp : sp [.ref a] H (fun v _ => v = .bl true) fun _ _ _ => False) :
    codeAny (model P w) callerA (.call (.ref fa) ⟨[.ref a], []⟩) (fun r s' => r = .ok (.ret (.bool true)) ∧ OldK s1.heap s'.heap ∧ s'.os = s1.os ∧ AllBare s'.gens) s1 := by
  have out : ∀ {b : Addr}, (∃ u, H b = some u) → b = a := fun {b} ⟨u, q⟩ => hA b fun z => by rw [z] at q; cases q
  have isn : ∀ {b : Addr}, b ≠ a → H b = none := fun {b} n => by
    cases q : H b with
    | none => rfl
    | some u => exact (n (out ⟨u, q⟩)).elim
  have nsK : ∀ {b : Addr} {m : Str → Option Value}, s1.heap.Ns b m → (hidT s1.heap H).Ns b m := by
    rintro b m ⟨o, es, ep, e, d, r⟩
    refine ⟨o, es, ep, hidT_get e (isn fun z => ?_), d, r⟩
    rw [z, ha] at e
    cases e
    have d' : Data.seq us.toArray _ = Data.dict es ep := d
    cases d'
  have hKb : K.In (hidT s1.heap H) := fun b o e => hidT_get (KX b o e) (by
    cases q : H b with
    | none => rfl
    | some u =>
      have z := out ⟨u, q⟩
      rw [z] at e q
      rw [hK (fun w => by rw [w] at q; cases q)] at e
      cases e)
  obtain ⟨mc, l1, l2⟩ := hlim
  have e0 : Env0 P w K mg (hidT s1.heap H) callerA [] s1 H :=
    { frames := rfl, mod := ⟨hKb, nsK hns, ⟨mb, nsK hb, hbb⟩, ⟨mc, nsK l1, l2⟩⟩, bs := fun b o e => of_hidT e, bsz := Nat.le_of_eq (hidT_size _ _), funs := trivial, frf := (fun b z => by cases z), hok := hok, bare := .of_eq hg }
  refine codeAny_mono ((F _ hKb (nsK hns)).run callerA [] s1 H ⟨[.ref a], []⟩ [.ref a] [.ref a] _ _ hr rfl e0 (hbind s1 (.ref a)) (.cons rfl .nil) hsp) fun r s' h => ?_
  match r, h with
  | .error e, h => exact (cx_none h).elim
  | .ok .next, h => exact (show False from h).elim
  | .ok .brk, h => exact (show False from h).elim
  | .ok .cont, h => exact (show False from h).elim
  | .ok (.ret u), ⟨v, H', os, bare, un, hok', r', q⟩ =>
    cases (show v = .bl true from q)
    cases (show u = Value.bool true from r')
    refine ⟨rfl, OldK.of_keep fun b o e => ?_, os, bare⟩
    rcases hO b with z | ⟨ob, xs, z⟩
    · exact un.keep b o e z (fun z => by cases z) (fun z => by cases z)
    · have e1 := (hok b _ z).1
      have e2 := (hok' b _ (un.frzs b ob _ z)).1
      rw [e1] at e
      cases e
      exact e2
theorem lawG_call {bits : Prop} (KX : K.In s1.heap) (hns : s1.heap.Ns mainGlobals mg) (hb : s1.heap.Ns builtinsNs mb) (hbb : ∀ x : Str, x ≠ "__name__" → mb x = bootBuiltins x) (hlim : s1.heap.NoLimit) (hg : s1.gens = #[])
    (ha : s1.heap.get? a = some { cls := .type "list", data := .seq us.toArray }) (hi : IntsAre us ns) (hl : ns.length ≤ sizeLine) (hr : Room k callerA)
    (F : ∀ base : Heap, K.In base → base.Ns mainGlobals mg → FnG P w K mg base k fa fd ["script"] sp) (hbind : ∀ (s : Shared) (u : Value), BindsTo s fd ⟨[u], []⟩ [("script", u)])
    (hsp : ∀ H : Hp, Only H → SqL K H a (ns.map V.int) → sp [.ref a] H (fun v _ => v = .bl true) fun _ _ _ => False) :
    codeAny (model P w) callerA (.call (.ref fa) ⟨[.ref a], []⟩) (fun r s' => r = .ok (.ret (.bool true)) ∧ OldK s1.heap s'.heap ∧ s'.os = s1.os ∧ AllBare s'.gens) s1 := by
  have rv := vals_ints hi
  cases hk : K.lookup a with
  | some o =>
    have e := KX a o hk
    rw [ha] at e
    cases e
    refine lawG_core (H := fun _ => none) KX hns hb hbb hlim hg ha hr F hbind (fun _ => .inl rfl) (fun b u z => by cases z) (fun b z => (z rfl).elim) (fun z => (z rfl).elim) (hsp _ (fun _ => .inl rfl) (.inr ⟨_, us.toArray, _, hk, rfl, rfl, rfl, ?_, by simpa using rv⟩))
    rw [List.size_toArray, hi.length]
    exact hl
  | none =>
    obtain ⟨H, eH⟩ : ∃ H : Hp, H = fun b => if b = a then some (.frz { cls := .type "list", data := .seq us.toArray } (.lst (ns.map V.int))) else none := ⟨_, rfl⟩
    have at_ : H a = some (.frz { cls := .type "list", data := .seq us.toArray } (.lst (ns.map V.int))) := by
      rw [eH]
      exact if_pos rfl
    have off : ∀ b, b ≠ a → H b = none := fun b n => by
      rw [eH]
      exact if_neg n
    have hO : Only H := fun b => by
      by_cases n : b = a
      · exact .inr ⟨_, _, by rw [n]; exact at_⟩
      · exact .inl (off b n)
    refine lawG_core (H := H) KX hns hb hbb hlim hg ha hr F hbind hO (fun b u z => ?_) (fun b z => Classical.byContradiction fun n => z (off b n)) (fun _ => hk) (hsp H hO (.inl (.inr ⟨_, at_⟩)))
    by_cases n : b = a
    · cases n
      rw [at_] at z
      cases z
      exact ⟨ha, by rw [List.length_map]; exact hl, us, _, rv, ha⟩
    · rw [off b n] at z
      cases z
end
theorem walk_G {l : PySem.W.OpenLaw} {k : Nat} {q : Program} {loose : List Str} {XP : (Str → Option Value) → Heap → Prop} {YP : World → Heap → Prop} {d : DefRec} {K : Params → PySem.W.Frag} {sp : World → Sp}
    (hn : l.most = some 63) (hdf : d.params.defaults = []) (hr : Room k callerA) (hY : ∀ (w : World) (h : Heap), YP w h → (K w.params).In h)
    (F : ∀ (w : World) (mg : Str → Option Value) (fa : Addr) (h : Heap), (K w.params).In h → h.Ns mainGlobals mg → mg d.name = some (.ref fa) →
      ∃ fd : FuncData, (∀ (s : Shared) (u : Value), BindsTo s fd ⟨[u], []⟩ [("script", u)]) ∧ ∀ base : Heap, (K w.params).In base → base.Ns mainGlobals mg → FnG l.prog w (K w.params) mg base k fa fd ["script"] (sp w))
    (hsp : ∀ (w : World) (H : Hp) (a : Addr) (ns : List Int), ns.length ≤ 63 → (∀ z ∈ ns, Builtin.Int.intBits z ≤ 1048576) → Only H → SqL (K w.params) H a (ns.map V.int) → sp w [.ref a] H (fun v _ => v = .bl true) fun _ _ _ => False) :
    PySem.W.WalkO q loose XP YP l.row.toRowW d [] (fun f vs => PySem.call f vs) := by
  refine Att.attach_callB hn hdf fun w s0 s1 mg mb fa o pm cd doc a vs ns G Y ho hd hcd hmg hobj hints hlen hbits hg => ?_
  have KX := hY w _ Y
  obtain ⟨fd, hb, hF⟩ := F w mg fa _ KX G.T.g hmg
  exact lawG_call (bits := True) KX G.T.g G.T.b G.T.builtins G.T.nolimit hg hobj hints (Nat.le_trans hlen (by decide)) hr hF hb fun H hO hS => hsp w H a ns hlen hbits hO hS
section
variable {P : Program} {w : World} {K : PySem.W.Frag} {mg : Str → Option Value} {h : Heap} {f : Addr} {st : Stmt}
theorem law_mkG {oc : Value} {od an : Option Addr} {osl : Array (Option Value)} {kV doc pm cdv ct : Value} {fa : Addr} {k : Nat} {sp : Sp} (X : K.In h) (G : h.Ns mainGlobals mg) (hfa : mg "law" = some (.ref fa)) (a : PySem.W.nsIn K mainGlobals "law" = some (some (.ref f)))
    (l : K.lookup f = some ⟨oc, od, .func (PySem.W.fnOf "law" "law" (defArgs st) (defBody st) (defScope st) .none kV doc pm an cdv ct), osl⟩) (c : PySem.W.codeIn K cdv "law" = true) (kp : PySem.W.keepIn K (.ref f) = true)
    (hb : ∀ (s : Shared) (v : Value), BindsTo s (PySem.W.fnOf "law" "law" (defArgs st) (defBody st) (defScope st) .none kV doc pm an cdv ct) ⟨[v], []⟩ [("script", v)])
    (ok : ∀ base : Heap, ∀ fd, Fun K "law" "law" st f fd → FnG P w K mg base k f fd ["script"] sp) :
    ∃ fd : FuncData, (∀ (s : Shared) (v : Value), BindsTo s fd ⟨[v], []⟩ [("script", v)]) ∧ ∀ base : Heap, K.In base → base.Ns mainGlobals mg → FnG P w K mg base k fa fd ["script"] sp := by
  have e := hfa.symm.trans (PySem.W.mg_of X G a)
  cases e
  exact ⟨_, hb, fun base _ _ => ok base _ (fun_mk (st := st) l c kp)⟩
end
end EM
namespace EM
open PySem PySem.Spec PyProof.Rows L2
/-! ### enumerate over a tuple, over a text -/
set_option maxHeartbeats 4000000 in
theorem meets_enum1 {v : Value} {o : Obj} {S : Heap → Prop} (B : Begins v o S) :
    Meets (Builtin.«enumerate.__new__» ⟨[.type "enumerate", v], []⟩) (fun _ R s => S s.heap ∧
      R (.ok (.ret (.ref (s.heap.push o).objs.size))) { s with heap := (s.heap.push o).push { cls := .type "enumerate", data := .fields #[.none, .bool false, .ref s.heap.objs.size, rawInt 0, .none, .none] } }) :=
  .of_wp fun prog w A R s h => by
    obtain ⟨hp, g, d, tk, os⟩ := s
    obtain ⟨z1, z2⟩ := h
    have sub := sub_enumerate
    have go : ∀ {A1 : Around} {E1 : Value → Shared → Prop} {Q1 : Value → Shared → Prop}, Q1 (.ref hp.objs.size) ⟨hp.push o, g, d, tk, os⟩ → wpAny (model prog w) A1 (pyIter v) Q1 E1 ⟨hp, g, d, tk, os⟩ := fun q => B.iter prog w _ _ ⟨hp, g, d, tk, os⟩ _ z1 q
    wp_walk using go
    refine wpAny_stack_any fun st => wpAny_pure ?_
    split
    · rename_i c _ _ _ _ _
      cases (c == Value.type "enumerate") <;> (wp_walk using go; exact ⟨_, rfl, z2⟩)
    · wp_walk using go
      exact ⟨_, rfl, z2⟩
section
variable {prog : Program} {w : World} {A : Around} {E : Value → Shared → Prop} {s : Shared}
theorem call_enum1 {v : Value} {o : Obj} {S : Heap → Prop} {Q : Value → Shared → Prop} (B : Begins v o S) (hS : S s.heap)
    (h : ∀ h', IsEnum h' (s.heap.objs.size + 1) s.heap.objs.size 0 .none → h'.get? s.heap.objs.size = some o → (∀ b u, s.heap.get? b = some u → h'.get? b = some u) → Q (.ref (s.heap.objs.size + 1)) { s with heap := h' }) :
    wpAny (model prog w) A (call (.type "enumerate") [v]) Q E s := by
  have sz : (s.heap.push o).objs.size = s.heap.objs.size + 1 := Heap.size_push ..
  refine callType_new F.called_enumerate (by decide) (F.typeCall_enumerate_1 _) (F.newCall_enumerate_1 _) (fun obj => F.args_object_init_2 obj _) F.entry_enumerate_new (meets_enum1 B) ⟨hS, ?_⟩
  show _ ∧ _
  rw [sz]
  have he : IsEnum ((s.heap.push o).push { cls := .type "enumerate", data := .fields #[.none, .bool false, .ref s.heap.objs.size, rawInt 0, .none, .none] }) (s.heap.objs.size + 1) s.heap.objs.size 0 .none := by
    have q := Heap.get?_push_size (s.heap.push o) (o := { cls := .type "enumerate", data := .fields #[.none, .bool false, .ref s.heap.objs.size, rawInt 0, .none, .none] }) rfl
    rwa [sz] at q
  exact ⟨⟨_, he, rfl⟩, h _ he (Heap.get?_push_of_some _ (Heap.get?_push_size _ B.free)) fun b u x => Heap.get?_push_of_some _ (Heap.get?_push_of_some _ x)⟩
end
/-- pairs (i, x) of what stands still: n items, the i-th one is x where Y i x; G: it stands -/
def IteG (G : Hp → Prop) (n : Nat) (Y : Nat → V → Prop) : It :=
  ⟨fun i H => G H ∧ i < n, fun i H v H' => ∃ T x, v = .ref T ∧ H T = none ∧ H' = upd H T (.tup [.int (i : Nat), x]) ∧ Y i x, fun i H => G H ∧ i = n⟩
/-- what is drawn by the iterator at it, where G stands -/
structure Src (P : Program) (w : World) (K : PySem.W.Frag) (it : Addr) (G : Hp → Prop) (n : Nat) (Y : Nat → V → Prop) (stat : Nat → Heap → Prop) : Prop where
  live : ∀ i h, stat i h → ∃ o, h.get? it = some o ∧ (∀ v, o.data ≠ .cell v) ∧ o.cls ≠ .type "enumerate"
  keep : ∀ i h h', stat i h → (∀ o, h.get? it = some o → h'.get? it = some o) → stat i h'
  draws : ∀ (X : Cx), X.prog = P → X.w = w → X.K = K → X.calm = true → ∀ (pins : List (Addr × Obj)) (s : Shared) (σ : L2.St) (H : Hp), Inv X pins σ H s → G H → (∃ i, stat i s.heap) →
    ∃ fp Pr Sx, Draws P w X.A.in1 it fp n Pr Sx ∧ (∀ i, stat i s.heap → Sx i s.heap) ∧ (∀ i h, Sx i h → stat i h) ∧ (∀ b ∈ fp, b ≠ it → ∃ o, s.heap.get? b = some o ∧ o.cls ≠ .type "enumerate") ∧ ∀ i u, Pr i u → ∃ x, RelV x u ∧ Y i x
theorem turn_enumG {P : Program} {w : World} {K : PySem.W.Frag} {elts : List Expr} {kk : Nat} {tpos : Pos} {e it : Addr} {G : Hp → Prop} {n : Nat} {Y : Nat → V → Prop} {stat : Nat → Heap → Prop} (S : Src P w K it G n Y stat) :
    Turn P w K (.Tuple elts kk tpos) (IteG G n Y) [e, it] e (fun i h => (∃ old, IsEnum h e it ((i : Nat) : Int) old) ∧ stat i h ∧ e ≠ it) where
  mem := by simp
  obj := fun i h st b hb => by
    obtain ⟨⟨old, he⟩, hst, _⟩ := st
    obtain ⟨o, ho, hc, _⟩ := S.live i h hst
    simp only [List.mem_cons, List.not_mem_nil, or_false] at hb
    rcases hb with rfl | rfl
    · exact ⟨_, he, fun v q => nomatch q⟩
    · exact ⟨o, ho, hc⟩
  keep := fun i h h' st k => ⟨let ⟨old, he⟩ := st.1; ⟨old, k e (by simp) _ he⟩, S.keep i h h' st.2.1 fun o q => k it (by simp) o q, st.2.2⟩
  item := by
    intro X hP hw hK hc i pins s σ H E I hf st hg
    obtain ⟨⟨old, he⟩, hst, hne⟩ := st
    obtain ⟨gH, hi⟩ := hg
    obtain ⟨fp, Pr, Sx, D, d1, d2, d3, d4⟩ := S.draws X hP hw hK hc pins s σ H I gH ⟨i, hst⟩
    subst hP hw hK
    have hef : e ∉ fp := fun z => by
      obtain ⟨o, q1, q2⟩ := d3 e z hne
      rw [show s.heap.get? e = _ from he] at q1
      cases q1
      exact q2 rfl
    have hel : e < s.heap.objs.size := Heap.lt_size he
    have hil : it < s.heap.objs.size := by
      obtain ⟨o, q, _⟩ := S.live i _ hst
      exact Heap.lt_size q
    refine wpAny_pyNext_enum_itemD D he (d1 i hst) hi hne hef fun u h' tk hPr ho hst' hT hsz hk => ?_
    obtain ⟨x, ru, yx⟩ := d4 i u hPr
    refine ⟨_, rfl, wpAny_letOwnedTupleGo_enum (s := { s with heap := h', toks := tk + 1 }) ho fun h'' he' sb => ?_⟩
    have hT2 : h''.get? s.heap.objs.size = some { cls := .type "tuple", data := .seq #[.int i tk, u] } := (sb.2 _ (Nat.ne_of_gt hel)).trans hT
    have new : ObjOk X.prog X.w (upd H s.heap.objs.size (.tup [.int (i : Nat), x])) h'' s.heap.objs.size (.tup [.int (i : Nat), x]) :=
      ⟨by show 2 ≤ sizeLine; decide, [.int i tk, u], .cons ⟨_, rfl⟩ (.cons ru .nil), ⟨_, hT2, rfl, _, rfl⟩⟩
    have I1 : Inv X pins σ (upd H s.heap.objs.size (.tup [.int (i : Nat), x])) { s with heap := h'', toks := tk + 1 } :=
      I.turnedNew (ch := [e, it]) (fun b ob hb q => (sb.2 b (fun z => hb (by simp [z]))).trans (hk b ob (fun z => hb (by simp [z])) (fun z => hb (by simp [z])) q)) hf (Nat.le_refl _) new
    refine ⟨.ref s.heap.objs.size, _, I1, rfl, ⟨_, x, rfl, I.hok.fresh (Nat.le_refl _), rfl, yx⟩, ⟨⟨u, ?_⟩, S.keep _ _ _ (d2 _ _ hst') fun o q => (sb.2 it (Ne.symm hne)).trans q, hne⟩, fun b hb => ?_⟩
    · rw [show ((i + 1 : Nat) : Int) = (i : Int) + 1 by omega]
      exact he'
    · have hb' : b < s.heap.objs.size := by
        simp only [List.mem_cons, List.not_mem_nil, or_false] at hb
        rcases hb with rfl | rfl
        · exact hel
        · exact hil
      rw [upd_ne (Nat.ne_of_lt hb')]
      exact (hf b hb).1
  done := by
    intro X hP hw hK hc i pins s σ H E I hf st hg
    obtain ⟨⟨old, he⟩, hst, hne⟩ := st
    obtain ⟨gH, hi⟩ := hg
    obtain ⟨fp, Pr, Sx, D, d1, d2, d3, d4⟩ := S.draws X hP hw hK hc pins s σ H I gH ⟨i, hst⟩
    subst hP hw hK
    subst hi
    obtain ⟨f0, f1, f2, f3, f4, f5⟩ := hf it (by simp)
    exact wpAny_pyNext_enum_endD D he (d1 _ hst) fun h' eb => ⟨rfl, I.turned (t' := s.toks) (fun b o hb q => eb b o hb q) f0 f1 f3 f4 f5⟩
  self := fun A i s Q E st h => let ⟨⟨_, he⟩, _⟩ := st; wpAny_pyIter_enum he h
theorem src_tuple {P : Program} {w : World} {K : PySem.W.Frag} {it a : Addr} {xs : List V} : Src P w K it (fun H => SqT K H a xs) xs.length (fun i x => xs[i]? = some x) (fun i h => h.IsTupleIter it a i) where
  live := fun i h ⟨o, ho, hc, hd⟩ => ⟨o, ho, (fun v z => by rw [hd] at z; cases z), (fun z => absurd (Value.type.inj (hc.symm.trans z)) (by decide))⟩
  keep := fun i h h' st k => st.at k
  draws := by
    intro X hP hw hK hc pins s σ H I gH ⟨i0, o0, ho0, hc0, hd0⟩
    subst hP hw hK
    obtain ⟨its, rv, p, hz⟩ := I.tuple gH
    obtain ⟨oa, ha, hca, _⟩ := id p
    have ne : a ≠ it := fun z => by
      rw [z, ho0] at ha
      cases ha
      exact absurd (Value.type.inj (hc0.symm.trans hca)) (by decide)
    have D := Draws.tuple (prog := X.prog) (w := X.w) (A := X.A.in1) (I.ok.hd hc) it a ne its.toArray
    rw [show its.toArray.size = xs.length by rw [List.size_toArray, rv.length]] at D
    refine ⟨_, _, _, D, fun i st => ⟨st, p⟩, fun i h st => st.1, fun b hb hn => ?_, fun i u hu => ?_⟩
    · simp only [List.mem_cons, List.not_mem_nil, or_false] at hb
      rcases hb with rfl | rfl
      · exact (hn rfl).elim
      · exact ⟨oa, ha, fun z => absurd (Value.type.inj (hca.symm.trans z)) (by decide)⟩
    · cases e : xs[i]? with
      | none =>
        have := rv.none_of e
        rw [List.getElem?_toArray] at hu
        rw [this] at hu
        cases hu
      | some x =>
        obtain ⟨u', hu', r⟩ := rv.get e
        rw [List.getElem?_toArray] at hu
        rw [hu'] at hu
        cases hu
        exact ⟨x, r, rfl⟩
theorem src_text {P : Program} {w : World} {K : PySem.W.Frag} {it : Addr} {z : Str} {t : Tok} : Src P w K it (fun _ => True) z.cps.size (fun i x => ∃ c, z.cps[i]? = some c ∧ x = .str ⟨#[c]⟩) (fun i h => h.IsStrIter it (strIterType z) z t i) where
  live := fun i h ⟨o, ho, hc, hd⟩ => ⟨o, ho, (fun v z => by rw [hd] at z; cases z), (fun q => by
    have q := Value.type.inj (hc.symm.trans q)
    unfold strIterType at q
    split at q <;> exact absurd q (by decide))⟩
  keep := fun i h h' st k => let ⟨o, q, r⟩ := st; ⟨o, k o q, r⟩
  draws := by
    intro X hP hw hK hc pins s σ H I gH _
    subst hP hw hK
    refine ⟨_, _, _, Draws.text (prog := X.prog) (w := X.w) (A := X.A.in1) (I.ok.hd hc) it z t, fun i st => st, fun i h st => st, fun b hb hn => ?_, fun i u hu => ?_⟩
    · simp only [List.mem_cons, List.not_mem_nil, or_false] at hb
      exact (hn hb).elim
    · obtain ⟨c, u', e1, e2⟩ := hu
      subst e2
      exact ⟨.str ⟨#[c]⟩, ⟨_, rfl⟩, c, e1, rfl⟩
def iEnumT (K : PySem.W.Frag) (ta : TA) : TI := fun σ H R => ta σ H fun vs H1 => ∃ a xs, vs = [.ref a] ∧ SqT K H1 a xs ∧ R (IteG (fun H => SqT K H a xs) xs.length (fun i x => xs[i]? = some x)) H1
def iEnumS (ta : TA) : TI := fun σ H R => ta σ H fun vs H1 => ∃ z, vs = [.str z] ∧ R (IteG (fun _ => True) z.cps.size (fun i x => ∃ c, z.cps[i]? = some c ∧ x = .str ⟨#[c]⟩)) H1
section
variable {X : Cx} {e : Expr} {ta : TA} {p pos tpos : Pos} {elts : List Expr} {kk : Nat}
theorem enum_fp {pins : List (Addr × Obj)} {σ : L2.St} {H : Hp} {s : Shared} (I : Inv X pins σ H s) : ∀ b ∈ [s.heap.objs.size + 1, s.heap.objs.size], FpOk X pins H b := fun b hb => by
  have hle : s.heap.objs.size ≤ b := by
    simp only [List.mem_cons, List.not_mem_nil, or_false] at hb
    omega
  exact I.fpOk hle (I.hok.fresh hle)
theorem pi_enumT (hg : Gl X "enumerate") (hm : X.mg "enumerate" = none) (ha : PA X [e] ta) (hs : starEach [e] X.env = [(false, eval e X.env)] := by rfl) :
    PI X (.Tuple elts kk tpos) (.Call (.Name "enumerate" p) [e] [] pos) (iEnumT X.K ta) := by
  refine ⟨fun pins s σ H R I h => Call_ (ld_blt I hg hm boot_enumerate (PyProof.Rows.callWith_type1 (thn (ha.run pos pins s σ H _ I h) fun us s1 hh => ?_) hs rfl))⟩
  obtain ⟨vs, H1, I1, r1, a, xs, ex, hq, q⟩ := hh
  subst ex
  obtain ⟨u, rfl, ru⟩ := vals1 r1
  cases ru
  obtain ⟨its, rv, p', hz⟩ := I1.tuple hq
  refine call_enum1 (begins_tuple a its.toArray) p' fun h' he hit hk => wpAny_pyIter_enum he ?_
  exact ⟨s1.heap.objs.size + 1, _, _, _, H1, rfl, I1.kept (t' := s1.toks) hk, turn_enumG (src_tuple (a := a) (xs := xs)), ⟨⟨.none, he⟩, ⟨_, hit, rfl, rfl⟩, Nat.succ_ne_self _⟩, enum_fp I1, q⟩
theorem pi_enumS (hg : Gl X "enumerate") (hm : X.mg "enumerate" = none) (ha : PA X [e] ta) (hs : starEach [e] X.env = [(false, eval e X.env)] := by rfl) :
    PI X (.Tuple elts kk tpos) (.Call (.Name "enumerate" p) [e] [] pos) (iEnumS ta) := by
  refine ⟨fun pins s σ H R I h => Call_ (ld_blt I hg hm boot_enumerate (PyProof.Rows.callWith_type1 (thn (ha.run pos pins s σ H _ I h) fun us s1 hh => ?_) hs rfl))⟩
  obtain ⟨vs, H1, I1, r1, z, ex, q⟩ := hh
  subst ex
  obtain ⟨u, rfl, ru⟩ := vals1 r1
  obtain ⟨t, rfl⟩ := ru
  refine call_enum1 (begins_text z t) trivial fun h' he hit hk => wpAny_pyIter_enum he ?_
  exact ⟨s1.heap.objs.size + 1, _, _, _, H1, rfl, I1.kept (t' := s1.toks) hk, turn_enumG (src_text (z := z) (t := t)), ⟨⟨.none, he⟩, ⟨_, hit, rfl, rfl⟩, Nat.succ_ne_self _⟩, enum_fp I1, q⟩
end
/-- the reading of a for over such pairs -/
theorem for_G {G : Hp → Prop} {n : Nat} {Y : Nat → V → Prop} {g : TG} {tb : TS} {D : Ends} {σ : L2.St} {H : Hp} (Pv : Nat → L2.St → Hp → Prop) (h0 : Pv 0 σ H) (hG : ∀ i σ H, i ≤ n → Pv i σ H → G H)
    (hs : ∀ i T x σ H, i < n → Y i x → H T = none → Pv i σ H → g (.ref T) σ (upd H T (.tup [.int (i : Nat), x])) fun σ2 H2 => tb { D with nx := Pv (i + 1), ct := Pv (i + 1), bk := D.nx } σ2 H2) (hd : ∀ σ H, Pv n σ H → D.nx σ H) :
    ∃ W : Nat → Nat → L2.St → Hp → Prop, (∃ m, W 0 m σ H) ∧ ∀ i m σ H, W i m σ H →
      ((IteG G n Y).stop i H ∧ D.nx σ H) ∨ ((IteG G n Y).go i H ∧ ∃ N : L2.St → Hp → Prop, (∀ σ' H', N σ' H' → ∃ m', m' < m ∧ W (i + 1) m' σ' H') ∧ ∀ x H', (IteG G n Y).yld i H x H' → g x σ H' fun σ2 H2 => tb { D with nx := N, ct := N, bk := D.nx } σ2 H2) := by
  refine ⟨fun i m σ H => m = n - i ∧ i ≤ n ∧ Pv i σ H, ⟨n, rfl, Nat.zero_le _, h0⟩, ?_⟩
  rintro i m σ H ⟨rfl, hi, p⟩
  have gH := hG i σ H hi p
  rcases Nat.lt_or_ge i n with l | l
  · refine .inr ⟨⟨gH, l⟩, Pv (i + 1), fun σ' H' p' => ⟨n - (i + 1), by omega, rfl, l, p'⟩, fun x H' y => ?_⟩
    obtain ⟨T, v, rfl, nT, rfl, yv⟩ := y
    exact hs i T v σ H l yv nT p
  · have e : i = n := Nat.le_antisymm hi l
    subst e
    exact .inl ⟨⟨gH, rfl⟩, hd σ H p⟩
/-- the reading of a comprehension over such pairs -/
theorem lc_G {G : Hp → Prop} {n : Nat} {Y : Nat → V → Prop} {g : TG} {tt : TT} {te : TE} {vs : List Nat} {σ : L2.St} {H1 : Hp} {D : Addr} {Qd : Hp → Prop} (Pv : Nat → Hp → Prop) (h0 : Pv 0 (upd H1 D (.lst []))) (hG : ∀ i H, i ≤ n → Pv i H → G H)
    (hs : ∀ i T x H, i < n → Y i x → H T = none → Pv i H → g (.ref T) (wipe σ vs) (upd H T (.tup [.int (i : Nat), x])) fun σ2 H2 => wipe σ2 vs = wipe σ vs ∧ tt σ2 H2 fun b H3 =>
      if b = true then te σ2 H3 fun y H4 => ∃ acc, H4 D = some (.lst acc) ∧ acc.length < sizeLine ∧ Pv (i + 1) (upd H4 D (.lst (acc ++ [y]))) else Pv (i + 1) H3) (hd : ∀ H, Pv n H → Qd H) :
    ∃ W : Nat → Nat → Hp → Prop, (∃ m, W 0 m (upd H1 D (.lst []))) ∧ ∀ i m H, W i m H →
      ((IteG G n Y).stop i H ∧ Qd H) ∨ ((IteG G n Y).go i H ∧ ∃ Nx : Hp → Prop, (∀ H', Nx H' → ∃ m', m' < m ∧ W (i + 1) m' H') ∧ ∀ x H', (IteG G n Y).yld i H x H' → g x (wipe σ vs) H' fun σ2 H2 => wipe σ2 vs = wipe σ vs ∧ tt σ2 H2 fun b H3 =>
        if b = true then te σ2 H3 fun y H4 => ∃ acc, H4 D = some (.lst acc) ∧ acc.length < sizeLine ∧ Nx (upd H4 D (.lst (acc ++ [y]))) else Nx H3) := by
  refine ⟨fun i m H => m = n - i ∧ i ≤ n ∧ Pv i H, ⟨n, rfl, Nat.zero_le _, h0⟩, ?_⟩
  rintro i m H ⟨rfl, hi, p⟩
  have gH := hG i H hi p
  rcases Nat.lt_or_ge i n with l | l
  · refine .inr ⟨⟨gH, l⟩, Pv (i + 1), fun H' p' => ⟨n - (i + 1), by omega, rfl, l, p'⟩, fun x H' y => ?_⟩
    obtain ⟨T, v, rfl, nT, rfl, yv⟩ := y
    exact hs i T v H l yv nT p
  · have e : i = n := Nat.le_antisymm hi l
    subst e
    exact .inl ⟨⟨gH, rfl⟩, hd H p⟩
/-- the reading of a for over enumerate of a list -/
theorem for_E {K : PySem.W.Frag} {a : Addr} {xs : List V} {g : TG} {tb : TS} {D : Ends} {σ : L2.St} {H : Hp} (Pv : Nat → L2.St → Hp → Prop) (h0 : Pv 0 σ H) (hl : ∀ i σ H, i ≤ xs.length → Pv i σ H → SqL K H a xs)
    (hs : ∀ i T x σ H, xs[i]? = some x → H T = none → Pv i σ H → g (.ref T) σ (upd H T (.tup [.int (i : Nat), x])) fun σ2 H2 => tb { D with nx := Pv (i + 1), ct := Pv (i + 1), bk := D.nx } σ2 H2) (hd : ∀ σ H, Pv xs.length σ H → D.nx σ H) :
    ∃ W : Nat → Nat → L2.St → Hp → Prop, (∃ m, W 0 m σ H) ∧ ∀ i m σ H, W i m σ H →
      ((Ite K a).stop i H ∧ D.nx σ H) ∨ ((Ite K a).go i H ∧ ∃ N : L2.St → Hp → Prop, (∀ σ' H', N σ' H' → ∃ m', m' < m ∧ W (i + 1) m' σ' H') ∧ ∀ x H', (Ite K a).yld i H x H' → g x σ H' fun σ2 H2 => tb { D with nx := N, ct := N, bk := D.nx } σ2 H2) := by
  refine ⟨fun i m σ H => m = xs.length - i ∧ i ≤ xs.length ∧ Pv i σ H, ⟨_, rfl, Nat.zero_le _, h0⟩, ?_⟩
  rintro i m σ H ⟨rfl, hi, p⟩
  have hS := hl i σ H hi p
  rcases Nat.lt_or_ge i xs.length with l | l
  · refine .inr ⟨⟨xs, xs[i], hS, List.getElem?_eq_getElem l⟩, Pv (i + 1), fun σ' H' p' => ⟨xs.length - (i + 1), by omega, rfl, l, p'⟩, fun x H' y => ?_⟩
    obtain ⟨T, v, rfl, nT, rfl, yv⟩ := y
    exact hs i T v σ H (yv xs hS) nT p
  · have e : i = xs.length := Nat.le_antisymm hi l
    subst e
    exact .inl ⟨⟨xs, hS, Nat.le_refl _⟩, hd σ H p⟩
/-- the reading of a comprehension over enumerate of a list -/
theorem lc_E {K : PySem.W.Frag} {a : Addr} {xs : List V} {g : TG} {tt : TT} {te : TE} {vs : List Nat} {σ : L2.St} {H1 : Hp} {D : Addr} {Qd : Hp → Prop} (Pv : Nat → Hp → Prop) (h0 : Pv 0 (upd H1 D (.lst []))) (hl : ∀ i H, i ≤ xs.length → Pv i H → SqL K H a xs)
    (hs : ∀ i T x H, xs[i]? = some x → H T = none → Pv i H → g (.ref T) (wipe σ vs) (upd H T (.tup [.int (i : Nat), x])) fun σ2 H2 => wipe σ2 vs = wipe σ vs ∧ tt σ2 H2 fun b H3 =>
      if b = true then te σ2 H3 fun y H4 => ∃ acc, H4 D = some (.lst acc) ∧ acc.length < sizeLine ∧ Pv (i + 1) (upd H4 D (.lst (acc ++ [y]))) else Pv (i + 1) H3) (hd : ∀ H, Pv xs.length H → Qd H) :
    ∃ W : Nat → Nat → Hp → Prop, (∃ m, W 0 m (upd H1 D (.lst []))) ∧ ∀ i m H, W i m H →
      ((Ite K a).stop i H ∧ Qd H) ∨ ((Ite K a).go i H ∧ ∃ Nx : Hp → Prop, (∀ H', Nx H' → ∃ m', m' < m ∧ W (i + 1) m' H') ∧ ∀ x H', (Ite K a).yld i H x H' → g x (wipe σ vs) H' fun σ2 H2 => wipe σ2 vs = wipe σ vs ∧ tt σ2 H2 fun b H3 =>
        if b = true then te σ2 H3 fun y H4 => ∃ acc, H4 D = some (.lst acc) ∧ acc.length < sizeLine ∧ Nx (upd H4 D (.lst (acc ++ [y]))) else Nx H3) := by
  refine ⟨fun i m H => m = xs.length - i ∧ i ≤ xs.length ∧ Pv i H, ⟨_, rfl, Nat.zero_le _, h0⟩, ?_⟩
  rintro i m H ⟨rfl, hi, p⟩
  have hS := hl i H hi p
  rcases Nat.lt_or_ge i xs.length with l | l
  · refine .inr ⟨⟨xs, xs[i], hS, List.getElem?_eq_getElem l⟩, Pv (i + 1), fun H' p' => ⟨xs.length - (i + 1), by omega, rfl, l, p'⟩, fun x H' y => ?_⟩
    obtain ⟨T, v, rfl, nT, rfl, yv⟩ := y
    exact hs i T v H (yv xs hS) nT p
  · have e : i = xs.length := Nat.le_antisymm hi l
    subst e
    exact .inl ⟨⟨xs, hS, Nat.le_refl _⟩, hd H p⟩
/-- a list in the making at a new place: all that was is as it was -/
structure Mk (H : Hp) (D : Addr) (acc : List V) (H' : Hp) : Prop where
  same : Same H H'
  at_ : H' D = some (.lst acc)
theorem Mk.start {H : Hp} {D : Addr} (n : H D = none) : Mk H D [] (upd H D (.lst [])) := ⟨same_new n, upd_same⟩
theorem Mk.next {H H1 H2 : Hp} {D : Addr} {acc : List V} (m : Mk H D acc H1) (s : Same H1 H2) : Mk H D acc H2 := ⟨m.same.trans s, s _ _ m.at_⟩
theorem Mk.push {H H1 : Hp} {D : Addr} {acc : List V} (n : H D = none) (m : Mk H D acc H1) (y : V) : Mk H D (acc ++ [y]) (upd H1 D (.lst (acc ++ [y]))) :=
  ⟨fun b o hb => by
    have : b ≠ D := fun z => by rw [z, n] at hb; cases hb
    rw [upd_ne this]
    exact m.same b o hb, upd_same⟩
theorem Mk.keep {H H1 : Hp} {D : Addr} {acc : List V} (m : Mk H D acc H1) : Keep H H1 := Keep.of m.same
/-! ### rules whose reading speaks of the written part, for a comprehension's block -/
section
variable {X : Cx} {K : PySem.W.Frag}
theorem kIx {r : PySem.W.Frag → R2} (i : IxR X (r X.K)) (h : X.K = K) : IxR X (r K) := h ▸ i
theorem kOp {r : PySem.W.Frag → R2} {f : Value → Value → Sem Value} (i : OpR X f (r X.K)) (h : X.K = K) : OpR X f (r K) := h ▸ i
theorem kCall {r : PySem.W.Frag → List V → Hp → VK → Prop} {f : Value} (i : CallR X f (r X.K)) (h : X.K = K) : CallR X f (r K) := h ▸ i
theorem kTg {n : Nat} {t : TGs} {e : Expr} (i : PG X e (gTup X.K n t)) (h : X.K = K) : PG X e (gTup K n t) := h ▸ i
def rLenSeq (K : PySem.W.Frag) : List V → Hp → VK → Prop := fun xs H Q => ∃ p ys, xs = [.ref p] ∧ (SqL K H p ys ∨ SqT K H p ys) ∧ Q (.int ys.length) H
theorem bIxT (h : X.K = K) : IxR X (rIxT K) := kIx (r := rIxT) ix_tup h
theorem bIxL (h : X.K = K) : IxR X (rIxL K) := kIx (r := rIxL) ix_list h
theorem bIx (h : X.K = K) : IxR X (rIx K) := kIx (r := rIx) ix_seq h
theorem bLen (h : X.K = K) : CallR X (.builtin "len") (rLenSeq K) := kCall (r := rLenSeq) call_len_seq h
theorem bIsi (h : X.K = K) : CallR X (.builtin "isinstance") (rIsi K) := kCall (r := rIsi) call_isi h
theorem bAll (hc : X.calm = true) (h : X.K = K) : CallR X (.builtin "all") (rAll K) := kCall (r := rAll) (cr_all hc) h
theorem bAny (hc : X.calm = true) (h : X.K = K) : CallR X (.builtin "any") (rAny K) := kCall (r := rAny) (cr_any hc) h
theorem bIn (h : X.K = K) : OpR X (compareOp .In) (rIn K false) := kOp (r := fun K => rIn K false) op_in_seq h
theorem bNotIn (h : X.K = K) : OpR X (compareOp .NotIn) (rIn K true) := kOp (r := fun K => rIn K true) op_notIn_seq h
theorem bEqD (hu : X.A.units + 64 < cLine) (h : X.K = K) : OpR X (compareOp .Eq) (rEqD K) := kOp (r := rEqD) (op_eqD hu) h
theorem bNeD (hu : X.A.units + 64 < cLine) (h : X.K = K) : OpR X (compareOp .NotEq) (rNeD K) := kOp (r := rNeD) (op_neD hu) h
end
end EM
namespace EM
open PySem PySem.Spec PyProof.Rows L2
open PySem.W (maxD AlikeAll max_list_default dataLt dataLt_int)
/-! ### max(xs, default=d) of ints -/
def rMaxDf (K : PySem.W.Frag) (d : Int) : List V → List V → Hp → VK → Prop := fun vs zs H Q => ∃ (a : Addr) (ns : List Int), vs = [V.ref a] ∧ zs = [.int d] ∧ SqL K H a (ns.map V.int) ∧
  ∀ m, (ns = [] → m = d) → (∀ x ∈ ns, x ≤ m) → (ns ≠ [] → m ∈ ns) → Q (.int m) H
theorem maxD_intsM : ∀ (xs : List Int) (x : Int), ∃ m : Int, maxD (.int x) (xs.map PyData.int) = .int m ∧ m ∈ x :: xs ∧ ∀ y ∈ x :: xs, y ≤ m
  | [], x => ⟨x, rfl, List.mem_cons_self .., fun y hy => by
      rcases List.mem_cons.mp hy with rfl | h
      · exact Int.le_refl _
      · cases h⟩
  | z :: r, x => by
    have e : maxD (.int x) ((z :: r).map PyData.int) = maxD (if dataLt (.int x) (.int z) then .int z else .int x) (r.map PyData.int) := rfl
    rw [e, dataLt_int]
    by_cases c : x < z
    · obtain ⟨m, h1, h2, h3⟩ := maxD_intsM r z
      refine ⟨m, by rw [decide_eq_true c, if_pos rfl, h1], List.mem_cons_of_mem _ h2, fun y hy => ?_⟩
      rcases List.mem_cons.mp hy with rfl | h
      · have := h3 z (List.mem_cons_self ..)
        omega
      · exact h3 y h
    · obtain ⟨m, h1, h2, h3⟩ := maxD_intsM r x
      refine ⟨m, by rw [decide_eq_false c, if_neg Bool.false_ne_true, h1], ?_, fun y hy => ?_⟩
      · rcases List.mem_cons.mp h2 with rfl | h
        · exact List.mem_cons_self ..
        · exact List.mem_cons_of_mem _ (List.mem_cons_of_mem _ h)
      · rcases List.mem_cons.mp hy with rfl | h
        · exact h3 y (List.mem_cons_self ..)
        · rcases List.mem_cons.mp h with rfl | h
          · have := h3 x (List.mem_cons_self ..)
            omega
          · exact h3 y (List.mem_cons_of_mem _ h)
theorem alike_ints (ns : List Int) : AlikeAll (ns.map PyData.int) := by
  refine ⟨fun x hx y hy => ?_, fun x hx => ?_⟩
  · obtain ⟨a, _, rfl⟩ := List.mem_map.mp hx
    obtain ⟨b, _, rfl⟩ := List.mem_map.mp hy
    rfl
  · obtain ⟨a, _, rfl⟩ := List.mem_map.mp hx
    intro z
    cases z
theorem depth_ints : ∀ ns : List Int, PyData.depthAll (ns.map PyData.int) = 0
  | [] => by simp only [List.map_nil, PyData.depthAll]
  | n :: r => by simp only [List.map_cons, PyData.depthAll, PyData.depth, depth_ints r, Nat.max_self]
theorem dpAll_ints {K : PySem.W.Frag} {H : Hp} : ∀ ns : List Int, DpAll K H (ns.map V.int) (ns.map PyData.int)
  | [] => .nil
  | n :: r => .cons (.int n) (dpAll_ints r)
theorem cr_maxDf {X : Cx} {d : Int} (hc : X.calm = true) (hu : X.A.units + 64 < cLine) : CallRK X (.builtin "max") [Str.ofString "default"] (rMaxDf X.K d) := by
  intro pins s σ H vs zs us ws Q I r rz h
  obtain ⟨a, ns, rfl, rfl, hs, q⟩ := h
  obtain rfl := Vals.ref1 r
  obtain ⟨w1, rfl, t, rfl⟩ := vals1 rz
  obtain ⟨its, rv, hl, hz⟩ := I.list hs
  obtain ⟨as, hr⟩ := Dp.readsAll I (ns.map PyData.int) _ its (dpAll_ints ns) rv
  refine PySem.W.max_list_default (xs := ns.map PyData.int) (I.ok.hd hc) hl.isList hr (alike_ints ns) (by rw [depth_ints]; omega) (fun e h' tk hk => ?_) (fun y ys i v h' tk bs e hv hrv hk => ?_)
  · have e : ns = [] := List.map_eq_nil_iff.mp e
    exact ⟨.int d, H, I.kept hk, ⟨t, rfl⟩, q d (fun _ => rfl) (fun x hx => by rw [e] at hx; cases hx) fun z => (z e).elim⟩
  · cases ns with
    | nil => cases e
    | cons n r =>
      cases e
      obtain ⟨m, h1, h2, h3⟩ := maxD_intsM r n
      rw [h1] at hrv
      cases hrv with
      | int _ t' => exact ⟨.int m, H, I.kept hk, ⟨t', rfl⟩, q m (fun z => by cases z) h3 fun _ => h2⟩
end EM

namespace EM
open PySem PySem.Spec PyProof.Rows L2
/-! ### documents: plain -/
abbrev Doc := List (Nat × Nat)
def dep (d : Doc) (i : Nat) : Nat := match d[i]? with
  | some e => e.2
  | none => 0
def mrk (d : Doc) (i : Nat) : Nat := match d[i]? with
  | some e => e.1
  | none => 97
/-- how deep the next node may be -/
def mostOf (d : Doc) : Nat := match d.getLast? with
  | some e => e.2 + 1
  | none => 0
def isMk (c : Nat) : Prop := 97 ≤ c ∧ c ≤ 104
structure IsDoc (d : Doc) : Prop where
  marks : ∀ i, i < d.length → isMk (mrk d i)
  first : dep d 0 = 0
  step : ∀ i, i + 1 < d.length → dep d (i + 1) ≤ dep d i + 1
theorem dep_get {d : Doc} {i : Nat} {e : Nat × Nat} (h : d[i]? = some e) : dep d i = e.2 := by unfold dep; rw [h]
theorem mrk_get {d : Doc} {i : Nat} {e : Nat × Nat} (h : d[i]? = some e) : mrk d i = e.1 := by unfold mrk; rw [h]
theorem get_dm {d : Doc} {i : Nat} (h : i < d.length) : d[i]? = some (mrk d i, dep d i) := by
  unfold mrk dep
  rw [List.getElem?_eq_getElem h]
theorem dep_app {d r : Doc} {i : Nat} (h : i < d.length) : dep (d ++ r) i = dep d i := by
  unfold dep
  rw [List.getElem?_append_left h]
theorem mrk_app {d r : Doc} {i : Nat} (h : i < d.length) : mrk (d ++ r) i = mrk d i := by
  unfold mrk
  rw [List.getElem?_append_left h]
theorem dep_last {d : Doc} {e : Nat × Nat} : dep (d ++ [e]) d.length = e.2 := dep_get (by simp)
theorem mrk_last {d : Doc} {e : Nat × Nat} : mrk (d ++ [e]) d.length = e.1 := mrk_get (by simp)
theorem most_snoc {d : Doc} {e : Nat × Nat} : mostOf (d ++ [e]) = e.2 + 1 := by unfold mostOf; simp
theorem most_dep {d : Doc} (h : 0 < d.length) : mostOf d = dep d (d.length - 1) + 1 := by
  unfold mostOf dep
  rw [List.getLast?_eq_getElem?]
  rw [List.getElem?_eq_getElem (by omega)]
theorem IsDoc.nil : IsDoc [] := ⟨(fun i h => by cases h), rfl, (fun i h => by cases h)⟩
theorem IsDoc.snoc {d : Doc} {c k : Nat} (h : IsDoc d) (hc : isMk c) (hk : k ≤ mostOf d) : IsDoc (d ++ [(c, k)]) := by
  have len : (d ++ [(c, k)]).length = d.length + 1 := by simp
  refine ⟨fun i hi => ?_, ?_, fun i hi => ?_⟩
  · rw [len] at hi
    rcases Nat.lt_or_ge i d.length with l | l
    · rw [mrk_app l]
      exact h.marks i l
    · rw [show i = d.length by omega, mrk_last]
      exact hc
  · cases d with
    | nil =>
      have : k ≤ 0 := hk
      show k = 0
      omega
    | cons e r =>
      rw [dep_app (by simp)]
      exact h.first
  · rw [len] at hi
    rcases Nat.lt_or_ge (i + 1) d.length with l | l
    · rw [dep_app l, dep_app (by omega)]
      exact h.step i l
    · have e : i + 1 = d.length := by omega
      rw [e, dep_last, dep_app (by omega)]
      rw [most_dep (by omega)] at hk
      rw [show i = d.length - 1 by omega]
      exact hk
theorem IsDoc.take {d : Doc} (h : IsDoc d) (n : Nat) : IsDoc (d.take n) := by
  have len : (d.take n).length = min n d.length := List.length_take
  have dd : ∀ i, i < (d.take n).length → dep (d.take n) i = dep d i ∧ mrk (d.take n) i = mrk d i := fun i hi => by
    rw [len] at hi
    unfold dep mrk
    rw [List.getElem?_take_of_lt (by omega)]
    exact ⟨rfl, rfl⟩
  refine ⟨fun i hi => ?_, ?_, fun i hi => ?_⟩
  · rw [(dd i hi).2]
    exact h.marks i (by omega)
  · rcases Nat.eq_zero_or_pos (d.take n).length with z | z
    · rw [List.length_eq_zero_iff] at z
      rw [z]
      rfl
    · rw [(dd 0 z).1]
      exact h.first
  · rw [(dd (i + 1) hi).1, (dd i (by omega)).1]
    exact h.step i (by omega)
theorem IsDoc.next {d : Doc} (h : IsDoc d) {i : Nat} (hi : i < d.length) : dep d i ≤ mostOf (d.take i) := by
  cases i with
  | zero =>
    rw [h.first]
    exact Nat.zero_le _
  | succ i =>
    rw [most_dep (by rw [List.length_take]; omega), List.length_take, Nat.min_eq_left (by omega)]
    have e : dep (d.take (i + 1)) (i + 1 - 1) = dep d i := by
      unfold dep
      rw [List.getElem?_take_of_lt (by omega)]
      rfl
    rw [e]
    exact h.step i hi
/-- the last j below n where f stands -/
def lastAt (f : Nat → Bool) : Nat → Option Nat
  | 0 => none
  | n + 1 => if f n = true then some n else lastAt f n
theorem lastAt_some {f : Nat → Bool} : ∀ {n j : Nat}, lastAt f n = some j ↔ j < n ∧ f j = true ∧ ∀ t, j < t → t < n → f t = false
  | 0, j => by
    constructor
    · intro h; cases h
    · intro h; omega
  | n + 1, j => by
    unfold lastAt
    split
    · rename_i h
      constructor
      · intro e
        cases e
        exact ⟨Nat.lt_succ_self _, h, fun t h1 h2 => by omega⟩
      · rintro ⟨h1, h2, h3⟩
        rcases Nat.lt_or_ge j n with l | l
        · rw [h3 n l (Nat.lt_succ_self _)] at h
          cases h
        · rw [show j = n by omega]
    · rename_i h
      have h : f n = false := by simpa using h
      rw [lastAt_some (n := n)]
      constructor
      · rintro ⟨h1, h2, h3⟩
        refine ⟨by omega, h2, fun t h4 h5 => ?_⟩
        rcases Nat.lt_or_ge t n with l | l
        · exact h3 t h4 l
        · rw [show t = n by omega]
          exact h
      · rintro ⟨h1, h2, h3⟩
        have : j ≠ n := fun z => by rw [z, h] at h2; cases h2
        exact ⟨by omega, h2, fun t h4 h5 => h3 t h4 (by omega)⟩
theorem lastAt_none {f : Nat → Bool} : ∀ {n : Nat}, lastAt f n = none ↔ ∀ t, t < n → f t = false
  | 0 => ⟨fun _ t h => by omega, fun _ => rfl⟩
  | n + 1 => by
    unfold lastAt
    split
    · rename_i h
      constructor
      · intro e; cases e
      · intro e
        rw [e n (Nat.lt_succ_self _)] at h
        cases h
    · rename_i h
      have h : f n = false := by simpa using h
      rw [lastAt_none (n := n)]
      constructor
      · intro e t ht
        rcases Nat.lt_or_ge t n with l | l
        · exact e t l
        · rw [show t = n by omega]
          exact h
      · intro e t ht
        exact e t (by omega)
/-- the parent -/
def parOf (d : Doc) (i : Nat) : Option Nat := lastAt (fun j => decide (dep d j + 1 = dep d i)) i
/-- the number behind the piece -/
def endFrom (d : Doc) (k : Nat) : Nat → Nat → Nat
  | 0, j => j
  | m + 1, j => if dep d j ≤ k then j else endFrom d k m (j + 1)
def endOf (d : Doc) (i : Nat) : Nat := endFrom d (dep d i) (d.length - (i + 1)) (i + 1)
theorem endFrom_spec (d : Doc) (k : Nat) : ∀ m j, j ≤ endFrom d k m j ∧ endFrom d k m j ≤ j + m ∧ (∀ t, j ≤ t → t < endFrom d k m j → k < dep d t) ∧ (endFrom d k m j < j + m → dep d (endFrom d k m j) ≤ k)
  | 0, j => ⟨Nat.le_refl _, Nat.le_refl _, fun t h1 h2 => by have h2 : t < j := h2; omega, fun h => by have h : j < j + 0 := h; omega⟩
  | m + 1, j => by
    unfold endFrom
    split
    · rename_i h
      exact ⟨Nat.le_refl _, by omega, fun t h1 h2 => by omega, fun _ => h⟩
    · rename_i h
      obtain ⟨a, b, c, e⟩ := endFrom_spec d k m (j + 1)
      refine ⟨by omega, by omega, fun t h1 h2 => ?_, fun h1 => e (by omega)⟩
      rcases Nat.eq_or_lt_of_le h1 with z | z
      · rw [← z]
        omega
      · exact c t z h2
structure EndAt (d : Doc) (i e : Nat) : Prop where
  lt : i < e
  le : e ≤ d.length
  deep : ∀ t, i < t → t < e → dep d i < dep d t
  stop : e < d.length → dep d e ≤ dep d i
theorem endOf_at {d : Doc} {i : Nat} (h : i < d.length) : EndAt d i (endOf d i) := by
  obtain ⟨a, b, c, e⟩ := endFrom_spec d (dep d i) (d.length - (i + 1)) (i + 1)
  exact ⟨a, by show endFrom _ _ _ _ ≤ _; omega, fun t h1 h2 => c t h1 h2, fun h1 => e (by show endFrom _ _ _ _ < _; have : endOf d i < d.length := h1; unfold endOf at this; omega)⟩
theorem EndAt.uniq {d : Doc} {i a b : Nat} (x : EndAt d i a) (y : EndAt d i b) : a = b := by
  rcases Nat.lt_trichotomy a b with h | h | h
  · have h1 := y.deep a x.lt h
    have h2 := x.stop (Nat.lt_of_lt_of_le h y.le)
    omega
  · exact h
  · have h1 := x.deep b y.lt h
    have h2 := y.stop (Nat.lt_of_lt_of_le h x.le)
    omega
theorem EndAt.eq {d : Doc} {i a : Nat} (h : i < d.length) (x : EndAt d i a) : a = endOf d i := x.uniq (endOf_at h)
/-- from a depth at most k to k + 1 a node of the depth k is passed -/
theorem IsDoc.pass {d : Doc} (h : IsDoc d) {j c k : Nat} (hj : dep d j ≤ k) (hc : dep d c = k + 1) (hjc : j < c) (hn : c < d.length) : ∃ t, j ≤ t ∧ t < c ∧ dep d t = k := by
  have key : ∀ m, ∀ c, c = j + m → j < c → c < d.length → dep d c = k + 1 → ∃ t, j ≤ t ∧ t < c ∧ dep d t = k := by
    intro m
    induction m with
    | zero => intro c e h1; omega
    | succ m ih =>
      intro c e h1 h2 h3
      have st := h.step (c - 1) (by omega)
      rw [show c - 1 + 1 = c by omega, h3] at st
      rcases Nat.lt_or_ge (dep d (c - 1)) (k + 1) with l | l
      · exact ⟨c - 1, by omega, by omega, by omega⟩
      · -- deeper: look further ahead
        by_cases e1 : dep d (c - 1) = k + 1
        · have : j ≠ c - 1 := fun z => by rw [← z] at e1; omega
          obtain ⟨t, a, b, c'⟩ := ih (c - 1) (by omega) (by omega) (by omega) e1
          exact ⟨t, a, by omega, c'⟩
        · -- go down from c - 1 to the first at most k
          have down : ∀ n, ∀ i, i = j + n → i < c → k < dep d i → ∃ t, j ≤ t ∧ t < i ∧ dep d t = k := by
            intro n
            induction n with
            | zero => intro i ei _ hi; rw [ei] at hi; simp at hi; omega
            | succ n ihn =>
              intro i ei hi hd
              have st2 := h.step (i - 1) (by omega)
              rw [show i - 1 + 1 = i by omega] at st2
              rcases Nat.lt_or_ge k (dep d (i - 1)) with l2 | l2
              · obtain ⟨t, a, b, c'⟩ := ihn (i - 1) (by omega) (by omega) l2
                exact ⟨t, a, by omega, c'⟩
              · exact ⟨i - 1, by omega, by omega, by omega⟩
          obtain ⟨t, a, b, c'⟩ := down m (c - 1) (by omega) (by omega) (by omega)
          exact ⟨t, a, by omega, c'⟩
  exact key (c - j) c (by omega) hjc hn hc
/-- a child is told by its parent, or by its place and depth -/
theorem IsDoc.child {d : Doc} (h : IsDoc d) {p c : Nat} (hp : p < d.length) (hc : c < d.length) : parOf d c = some p ↔ p < c ∧ c < endOf d p ∧ dep d c = dep d p + 1 := by
  have en := endOf_at hp
  unfold parOf
  rw [lastAt_some]
  simp only [decide_eq_true_eq, decide_eq_false_iff_not]
  constructor
  · rintro ⟨h1, h2, h3⟩
    refine ⟨h1, ?_, h2.symm⟩
    refine Nat.lt_of_not_le fun l => ?_
    have es := en.stop (by omega)
    have : endOf d p ≠ c := fun z => by rw [z] at es; omega
    obtain ⟨t, a, b, e⟩ := h.pass (k := dep d p) es h2.symm (by omega) hc
    have := en.lt
    exact h3 t (by omega) b (by omega)
  · rintro ⟨h1, h2, h3⟩
    refine ⟨h1, h3.symm, fun t a b e => ?_⟩
    have := en.deep t a (by omega)
    omega
theorem IsDoc.top {d : Doc} (h : IsDoc d) {c : Nat} (hc : c < d.length) : parOf d c = none ↔ dep d c = 0 := by
  unfold parOf
  rw [lastAt_none]
  simp only [decide_eq_false_iff_not]
  constructor
  · intro h1
    refine Classical.byContradiction fun z => ?_
    rcases Nat.eq_zero_or_pos c with e | e
    · rw [e, h.first] at z
      exact z rfl
    · obtain ⟨t, a, b, q⟩ := h.pass (j := 0) (k := dep d c - 1) (by rw [h.first]; omega) (by omega) e hc
      exact h1 t b (by omega)
  · intro h1 t ht e
    omega
/-! ### documents in the heap -/
def EntryAt (K : PySem.W.Frag) (H : Hp) (x : V) (e : Nat × Nat) : Prop := ∃ b, x = .ref b ∧ SqT K H b [.str ⟨#[e.1]⟩, .int e.2]
structure Entries (K : PySem.W.Frag) (H : Hp) (xs : List V) (d : Doc) : Prop where
  len : xs.length = d.length
  at_ : ∀ (i : Nat) (x : V) (e : Nat × Nat), xs[i]? = some x → d[i]? = some e → EntryAt K H x e
theorem Entries.keep {K : PySem.W.Frag} {H H' : Hp} {xs : List V} {d : Doc} (k : Keep H H') (E : Entries K H xs d) : Entries K H' xs d :=
  ⟨E.len, fun i x e h1 h2 => let ⟨b, e1, e2⟩ := E.at_ i x e h1 h2; ⟨b, e1, k.seqT e2⟩⟩
theorem Entries.nil {K : PySem.W.Frag} {H : Hp} : Entries K H [] [] := ⟨rfl, fun i x e h => by cases h⟩
theorem Entries.snoc {K : PySem.W.Frag} {H : Hp} {xs : List V} {d : Doc} {x : V} {e : Nat × Nat} (E : Entries K H xs d) (h : EntryAt K H x e) : Entries K H (xs ++ [x]) (d ++ [e]) := by
  refine ⟨by simp [E.len], fun i y u h1 h2 => ?_⟩
  rcases Nat.lt_or_ge i xs.length with l | l
  · rw [List.getElem?_append_left l] at h1
    rw [List.getElem?_append_left (by rw [← E.len]; exact l)] at h2
    exact E.at_ i y u h1 h2
  · rw [List.getElem?_append_right l] at h1
    rw [List.getElem?_append_right (by rw [← E.len]; exact l), ← E.len] at h2
    cases hi : i - xs.length with
    | zero =>
      rw [hi] at h1 h2
      cases h1
      cases h2
      exact h
    | succ n =>
      rw [hi] at h1
      cases h1
theorem Entries.get {K : PySem.W.Frag} {H : Hp} {xs : List V} {d : Doc} (E : Entries K H xs d) {i : Nat} (h : i < d.length) : ∃ b, xs[i]? = some (.ref b) ∧ SqT K H b [.str ⟨#[mrk d i]⟩, .int (dep d i)] := by
  have hx : i < xs.length := by rw [E.len]; exact h
  obtain ⟨b, e1, e2⟩ := E.at_ i xs[i] (mrk d i, dep d i) (List.getElem?_eq_getElem hx) (get_dm h)
  exact ⟨b, by rw [List.getElem?_eq_getElem hx, e1], e2⟩
structure DocAt (K : PySem.W.Frag) (H : Hp) (v : V) (d : Doc) : Prop where
  ex : ∃ a xs, v = .ref a ∧ SqT K H a xs ∧ Entries K H xs d
theorem DocAt.keep {K : PySem.W.Frag} {H H' : Hp} {v : V} {d : Doc} (D : DocAt K H v d) (k : Keep H H') : DocAt K H' v d := by
  obtain ⟨a, xs, e1, e2, e3⟩ := D.ex
  exact ⟨a, xs, e1, k.seqT e2, e3.keep k⟩
theorem IsDoc.dep_le {d : Doc} (h : IsDoc d) : ∀ i, i < d.length → dep d i ≤ i
  | 0, _ => by rw [h.first]; exact Nat.le_refl _
  | i + 1, hi => by
    have := h.step i hi
    have := h.dep_le i (by omega)
    omega
theorem IsDoc.most_le {d : Doc} (h : IsDoc d) : mostOf d ≤ d.length := by
  cases e : d.length with
  | zero =>
    rw [List.length_eq_zero_iff] at e
    rw [e]
    exact Nat.le_refl _
  | succ n =>
    rw [most_dep (by omega), e]
    have := h.dep_le n (by omega)
    show dep d n + 1 ≤ n + 1
    omega

/-! ### data to be shown -/
structure Sh (m n : Nat) (d : PyData) : Prop where
  show_ : d.showable = true
  nod : d.hasDict = false
  deep : d.depth ≤ m
  short : d.leavesShort 13 = true
  bulk_ : d.bulk ≤ n
structure ShAll (m n : Nat) (ds : List PyData) : Prop where
  show_ : PyData.showableAll ds = true
  nod : PyData.hasDictAll ds = false
  deep : PyData.depthAll ds ≤ m
  short : PyData.leavesShortAll 13 ds = true
  bulk_ : PyData.bulkAll ds ≤ n
theorem ShAll.nil {m n : Nat} : ShAll m n [] := ⟨rfl, rfl, Nat.zero_le _, rfl, Nat.zero_le _⟩
theorem ShAll.cons {m n k : Nat} {d : PyData} {ds : List PyData} (h : Sh m n d) (t : ShAll m k ds) : ShAll m (n + 1 + k) (d :: ds) := by
  refine ⟨?_, ?_, ?_, ?_, ?_⟩
  · simp only [PyData.showableAll, h.show_, t.show_, Bool.and_self]
  · simp only [PyData.hasDictAll, h.nod, t.nod, Bool.or_self]
  · simp only [PyData.depthAll]; exact Nat.max_le.mpr ⟨h.deep, t.deep⟩
  · simp only [PyData.leavesShortAll, h.short, t.short, Bool.and_self]
  · simp only [PyData.bulkAll]
    have := h.bulk_
    have := t.bulk_
    omega
theorem Sh.tup {m n : Nat} {ds : List PyData} (h : ShAll m n ds) : Sh (m + 1) n (.tuple ds) :=
  ⟨by simp only [PyData.showable, h.show_], by simp only [PyData.hasDict, h.nod], by simp only [PyData.depth]; exact Nat.succ_le_succ h.deep, by simp only [PyData.leavesShort, h.short], by simp only [PyData.bulk]; exact h.bulk_⟩
theorem Sh.lst {m n : Nat} {ds : List PyData} (h : ShAll m n ds) : Sh (m + 1) n (.list ds) :=
  ⟨by simp only [PyData.showable, h.show_], by simp only [PyData.hasDict, h.nod], by simp only [PyData.depth]; exact Nat.succ_le_succ h.deep, by simp only [PyData.leavesShort, h.short], by simp only [PyData.bulk]; exact h.bulk_⟩
theorem Sh.non {m n : Nat} : Sh m n .none := ⟨by simp only [PyData.showable], by simp only [PyData.hasDict], by simp only [PyData.depth]; omega, by simp only [PyData.leavesShort], by simp only [PyData.bulk]; omega⟩
theorem Sh.bl {m n : Nat} {b : Bool} : Sh m n (.bool b) := ⟨by simp only [PyData.showable], by simp only [PyData.hasDict], by simp only [PyData.depth]; omega, by simp only [PyData.leavesShort], by simp only [PyData.bulk]; omega⟩
theorem Sh.nat {m n i : Nat} (h : i < 10 ^ 9) : Sh m n (.int i) := by
  have l : (i : Nat).log2 < 1920 := by
    rcases Nat.eq_zero_or_pos i with z | z
    · rw [z]
      decide
    · rw [Nat.log2_lt (by omega)]
      exact Nat.lt_of_lt_of_le h (Nat.le_trans (by decide : 10 ^ 9 ≤ 2 ^ 30) (Nat.pow_le_pow_right (by decide) (by decide)))
  refine ⟨?_, by simp only [PyData.hasDict], by simp only [PyData.depth]; omega, ?_, by simp only [PyData.bulk]; omega⟩
  · simp only [PyData.showable]
    exact decide_eq_true l
  · have h2 : (i : Int) < 10 ^ 10 := by
      have e1 : (10 : Int) ^ 10 = 10000000000 := by decide
      have e2 : (10 : Nat) ^ 9 = 1000000000 := by decide
      omega
    have := PySem.W.KT.len_num (n := (i : Int)) (by omega) h2
    simp only [PyData.leavesShort]
    exact decide_eq_true (Nat.le_trans this (by decide))
theorem Sh.str {m : Nat} {z : Str} (h : ∀ c ∈ z.cps.toList, c < 16 ^ 8) : Sh m z.cps.size (.str z) :=
  ⟨by simp only [PyData.showable], by simp only [PyData.hasDict], by simp only [PyData.depth]; omega, by simp only [PyData.leavesShort]; rw [List.all_eq_true]; exact fun c hc => decide_eq_true (h c hc), by simp only [PyData.bulk]; omega⟩
theorem ShAll.map {α : Type} {m n : Nat} {g : α → PyData} : ∀ (l : List α), (∀ x ∈ l, Sh m n (g x)) → ShAll m ((n + 1) * l.length) (l.map g)
  | [], _ => .nil
  | x :: r, h => by
    have := ShAll.cons (h x (List.mem_cons_self ..)) (ShAll.map r fun y hy => h y (List.mem_cons_of_mem _ hy))
    rw [show (n + 1) * (x :: r).length = n + 1 + (n + 1) * r.length by rw [List.length_cons, Nat.mul_succ]; omega]
    exact this
theorem Sh.weak {m n m' n' : Nat} {d : PyData} (h : Sh m n d) (hm : m ≤ m') (hn : n ≤ n') : Sh m' n' d := ⟨h.show_, h.nod, Nat.le_trans h.deep hm, h.short, Nat.le_trans h.bulk_ hn⟩
theorem Sh.rshow {K : PySem.W.Frag} {m n : Nat} {H : Hp} {v : V} {d : PyData} {Q : VK} (h : Sh m n d) (D : Dp K H v d) (hm : m ≤ 60) (hn : n ≤ 2 ^ 20) (q : Q (.str d.shown) H) : rShow K [v] H Q :=
  ⟨v, d, rfl, D, h.show_, h.nod, Nat.le_trans h.deep hm, PyData.shown_fits_bulk (B := 13) (by decide) (by decide) h.short (Nat.le_trans h.bulk_ hn), q⟩
theorem Sh.all {m n : Nat} {d : PyData} (h : Sh m n d) (hm : m ≤ 60 := by decide) (hn : n ≤ 2 ^ 20 := by decide) : d.showable = true ∧ d.hasDict = false ∧ d.depth ≤ 60 ∧ d.shown.length ≤ sizeLine :=
  ⟨h.show_, h.nod, Nat.le_trans h.deep hm, PyData.shown_fits_bulk (B := 13) (by decide) (by decide) h.short (Nat.le_trans h.bulk_ hn)⟩
theorem DpAll.map {α : Type} {K : PySem.W.Frag} {H : Hp} {f : α → V} {g : α → PyData} : ∀ (l : List α), (∀ x ∈ l, Dp K H (f x) (g x)) → DpAll K H (l.map f) (l.map g)
  | [], _ => .nil
  | x :: r, h => .cons (h x (List.mem_cons_self ..)) (DpAll.map r fun y hy => h y (List.mem_cons_of_mem _ hy))
/-- nodes and tuples of them -/
def dN (i : Nat) : PyData := .int i
theorem dp_nV {K : PySem.W.Frag} {H : Hp} (i : Nat) : Dp K H (nV i) (dN i) := .int _
def dO : Option Nat → PyData
  | none => .none
  | some n => .int n
theorem dp_tupN {K : PySem.W.Frag} {H : Hp} {a : Addr} {l : List Nat} (h : SqT K H a (l.map nV)) : Dp K H (.ref a) (.tuple (l.map dN)) := .tup h (DpAll.map l fun x _ => dp_nV x)
theorem sh_tupN {l : List Nat} {n : Nat} (hl : l.length ≤ n) (h : ∀ x ∈ l, x < 10 ^ 9) : Sh 1 n (.tuple (l.map dN)) :=
  (Sh.tup (ShAll.map (m := 0) (n := 0) l fun x hx => Sh.nat (h x hx))).weak (Nat.le_refl _) (by omega)

/-- None or a node -/
def oV : Option Nat → V
  | none => .non
  | some n => .int n
def parL (d : Doc) : List (Option Nat) := (List.range d.length).map (parOf d)
/-- the nodes above: behind i nodes the stack has at t the last node of the depth t -/
structure Stack (d : Doc) (i : Nat) (st : List Nat) : Prop where
  at_ : ∀ (t j : Nat), st[t]? = some j → lastAt (fun x => decide (dep d x = t)) i = some j
theorem Stack.nil {d : Doc} : Stack d 0 [] := ⟨fun t j h => by cases h⟩
theorem Stack.cut {d : Doc} {i : Nat} {st : List Nat} (S : Stack d i st) (n : Nat) : Stack d i (st.take n) := ⟨fun t j h => S.at_ t j (by
  rcases Nat.lt_or_ge t n with l | l
  · rwa [List.getElem?_take_of_lt l] at h
  · rw [List.getElem?_eq_none (by rw [List.length_take]; omega)] at h
    cases h)⟩
theorem Stack.push {d : Doc} {i : Nat} {st : List Nat} (S : Stack d i st) (hl : st.length = dep d i) : Stack d (i + 1) (st ++ [i]) := ⟨fun t j h => by
  rcases Nat.lt_or_ge t st.length with l | l
  · rw [List.getElem?_append_left l] at h
    have := S.at_ t j h
    show (if decide (dep d i = t) = true then some i else lastAt _ i) = some j
    rw [decide_eq_false (by omega), if_neg Bool.false_ne_true]
    exact this
  · rw [List.getElem?_append_right l] at h
    have e : t = st.length := by
      have := (List.getElem?_eq_some_iff.mp h).1
      simp at this
      omega
    subst e
    rw [Nat.sub_self] at h
    cases h
    show (if decide (dep d i = st.length) = true then some i else lastAt _ i) = some i
    rw [decide_eq_true hl.symm, if_pos rfl]⟩
theorem Stack.par {d : Doc} {i : Nat} {st : List Nat} {j : Nat} (S : Stack d i st) (hl : st.length = dep d i) (hj : st[st.length - 1]? = some j) (h0 : 0 < dep d i) : parOf d i = some j := by
  have := S.at_ _ _ hj
  rw [← this]
  unfold parOf
  congr 1
  funext x
  rw [Bool.eq_iff_iff]
  simp only [decide_eq_true_eq]
  omega
theorem ints_get {st : List Nat} {t : Nat} {v : V} (h : (st.map nV)[t]? = some v) : ∃ j, st[t]? = some j ∧ v = .int j := by
  rw [List.getElem?_map] at h
  cases e : st[t]? with
  | none => rw [e] at h; cases h
  | some j => rw [e] at h; cases h; exact ⟨j, rfl, rfl⟩
theorem parL_step {d : Doc} {i : Nat} : (List.range (i + 1)).map (parOf d) = (List.range i).map (parOf d) ++ [parOf d i] := by
  rw [List.range_succ, List.map_append]
  rfl
/-- the children of a node, or of the top -/
def rowL (d : Doc) (p : Option Nat) : List Nat := (List.range d.length).filter fun c => decide (parOf d c = p)
theorem filter_step (f : Nat → Bool) (i : Nat) : (List.range (i + 1)).filter f = if f i = true then (List.range i).filter f ++ [i] else (List.range i).filter f := by
  rw [List.range_succ, List.filter_append]
  cases h : f i with
  | true => simp [h]
  | false => simp [h]
theorem filter_none {f : Nat → Bool} {n : Nat} (h : ∀ c, c < n → f c = false) : (List.range n).filter f = [] := by
  rw [List.filter_eq_nil_iff]
  intro c hc
  rw [h c (List.mem_range.mp hc)]
  exact Bool.false_ne_true
theorem filter_more {f : Nat → Bool} {n m : Nat} (h : ∀ c, n ≤ c → c < m → f c = false) (hn : n ≤ m) : (List.range m).filter f = (List.range n).filter f := by
  induction m with
  | zero => rw [show n = 0 by omega]
  | succ m ih =>
    rcases Nat.lt_or_ge m n with l | l
    · rw [show n = m + 1 by omega]
    · rw [filter_step, h m l (Nat.lt_succ_self _), if_neg Bool.false_ne_true]
      exact ih (fun c h1 h2 => h c h1 (by omega)) l
theorem filter_len (f : Nat → Bool) (n : Nat) : ((List.range n).filter f).length ≤ n := by
  have := List.length_filter_le f (List.range n)
  rwa [List.length_range] at this
/-- how many nodes the pieces have -/
def szL (d : Doc) : List Nat := (List.range d.length).map fun i => endOf d i - i
/-! ### nodes shown -/
theorem dp_oV {K : PySem.W.Frag} {H : Hp} : ∀ p, Dp K H (oV p) (dO p)
  | none => .non
  | some _ => .int _
theorem oV_eq {p q : Option Nat} : oV p = oV q ↔ p = q := by
  constructor
  · intro h
    cases p with
    | none =>
      cases q with
      | none => rfl
      | some n => cases h
    | some m =>
      cases q with
      | none => cases h
      | some n =>
        have := V.int.inj h
        rw [show m = n by omega]
  · rintro rfl
    rfl
theorem scal_oV (p q : Option Nat) : scal (oV p) (oV q) = true := by
  cases p <;> cases q <;> rfl
theorem map_get {α : Type} {f : Nat → α} {g : α → V} {n i : Nat} {x : V} (h : (((List.range n).map f).map g)[i]? = some x) : i < n ∧ x = g (f i) := by
  rw [List.map_map, List.getElem?_map] at h
  cases hr : (List.range n)[i]? with
  | none => rw [hr] at h; cases h
  | some j =>
    rw [hr] at h
    cases h
    obtain ⟨h1, h2⟩ := List.getElem?_eq_some_iff.mp hr
    rw [List.length_range] at h1
    rw [List.getElem_range] at h2
    subst h2
    exact ⟨h1, rfl⟩
theorem sh_par {d : Doc} (h : d.length ≤ 62) : Sh 1 62 (.tuple ((parL d).map dO)) := by
  refine (Sh.tup (ShAll.map (m := 0) (n := 0) (parL d) fun x hx => ?_)).weak (Nat.le_refl _) (by simp [parL]; omega)
  obtain ⟨i, hi, rfl⟩ := List.mem_map.mp hx
  rw [List.mem_range] at hi
  cases e : parOf d i with
  | none => exact Sh.non
  | some n =>
    have := (lastAt_some.mp e).1
    exact Sh.nat (Nat.lt_of_lt_of_le (by omega : n < 62) (by decide))
theorem sh_sz {d : Doc} (h : d.length ≤ 62) : Sh 1 62 (.tuple ((szL d).map dN)) := by
  refine sh_tupN (by simp [szL]; omega) fun x hx => ?_
  obtain ⟨i, hi, rfl⟩ := List.mem_map.mp hx
  rw [List.mem_range] at hi
  have := (endOf_at hi).le
  exact Nat.lt_of_lt_of_le (by omega : _ < 63) (by decide)
theorem sh_row {d : Doc} {p : Option Nat} (h : d.length ≤ 62) : Sh 1 62 (.tuple ((rowL d p).map dN)) := by
  refine sh_tupN (Nat.le_trans (filter_len _ _) h) fun x hx => ?_
  have := List.mem_range.mp (List.mem_filter.mp hx).1
  exact Nat.lt_of_lt_of_le (by omega : x < 62) (by decide)
theorem canlay_N : ∀ l : List Nat, PyData.canLayAll0 (l.map dN) = true
  | [] => rfl
  | x :: r => by
    rw [List.map_cons, PyData.canLayAll0, canlay_N r]
    rfl
theorem depthAll_N : ∀ l : List Nat, PyData.depthAll (l.map dN) = 0
  | [] => by simp only [List.map_nil, PyData.depthAll]
  | x :: r => by
    have : (dN x).depth = 0 := by unfold dN; simp only [PyData.depth]
    simp only [List.map_cons, PyData.depthAll, this, depthAll_N r, Nat.max_self]
theorem shaped_N (l : List Nat) : SeqAt.shaped (.list (l.map dN)) = true := by
  unfold SeqAt.shaped
  rw [show PyData.canLay0 (.list (l.map dN)) = true from canlay_N l, show PyData.depth (.list (l.map dN)) = 1 by simp only [PyData.depth, depthAll_N]]
  rfl
theorem eqv_nil (l : List Nat) : PyData.eqv (.list (l.map dN)) (.list []) = decide (l = []) := by
  cases l with
  | nil => rfl
  | cons x r =>
    rw [decide_eq_false (fun z => by cases z)]
    rfl
def spParentsOf (K : PySem.W.Frag) : Sp := fun vs H Q _ => ∃ v d, vs = [v] ∧ DocAt K H v d ∧ IsDoc d ∧ d.length ≤ 20000 ∧ ∀ H' p, Same H H' → H p = none → H' p = some (.lst ((parL d).map oV)) → Q (.ref p) H'

/-! ### a list of lists of nodes -/
structure RowsAt (H H' : Hp) (p : Addr) (rs : List Addr) (n : Nat) (f : Nat → List Nat) : Prop where
  len : rs.length = n
  same : Same H H'
  at_ : H' p = some (.lst (rs.map V.ref))
  new : H p = none
  row : ∀ (i : Nat) (a : Addr), rs[i]? = some a → H' a = some (.lst ((f i).map nV)) ∧ H a = none ∧ a ≠ p
  inj : ∀ (i j : Nat) (a : Addr), rs[i]? = some a → rs[j]? = some a → i = j
theorem RowsAt.start {H : Hp} {D : Addr} {f : Nat → List Nat} (n : H D = none) : RowsAt H (upd H D (.lst [])) D [] 0 f :=
  ⟨rfl, same_new n, upd_same, n, (fun i a h => by cases h), (fun i j a h => by cases h)⟩
theorem RowsAt.next {H H' H'' : Hp} {p : Addr} {rs : List Addr} {n : Nat} {f : Nat → List Nat} (R : RowsAt H H' p rs n f) (s : Same H' H'') : RowsAt H H'' p rs n f :=
  ⟨R.len, R.same.trans s, s _ _ R.at_, R.new, fun i a h => let ⟨h1, h2, h3⟩ := R.row i a h; ⟨s _ _ h1, h2, h3⟩, R.inj⟩
theorem RowsAt.more {H H' : Hp} {D a : Addr} {rs : List Addr} {n : Nat} {f : Nat → List Nat} (R : RowsAt H H' D rs n f) (na : H' a = none) (fi : f n = []) :
    RowsAt H (upd (upd H' a (.lst [])) D (.lst (rs.map V.ref ++ [.ref a]))) D (rs ++ [a]) (n + 1) f := by
  have aD : a ≠ D := fun z => by rw [z, R.at_] at na; cases na
  have nH : H a = none := R.same.free na
  refine ⟨by simp [R.len], fun b o hb => ?_, by rw [upd_same, List.map_append]; rfl, R.new, fun i b h => ?_, fun i j b h1 h2 => ?_⟩
  · have n1 : b ≠ D := fun z => by rw [z, R.new] at hb; cases hb
    have n2 : b ≠ a := fun z => by rw [z, nH] at hb; cases hb
    rw [upd_ne n1, upd_ne n2]
    exact R.same b o hb
  · rcases Nat.lt_or_ge i rs.length with l | l
    · rw [List.getElem?_append_left l] at h
      obtain ⟨h1, h2, h3⟩ := R.row i b h
      have n2 : b ≠ a := fun z => by rw [z, na] at h1; cases h1
      rw [upd_ne h3, upd_ne n2]
      exact ⟨h1, h2, h3⟩
    · rw [List.getElem?_append_right l] at h
      have e : i = rs.length := by
        have := (List.getElem?_eq_some_iff.mp h).1
        simp at this
        omega
      subst e
      rw [Nat.sub_self] at h
      cases h
      rw [upd_ne aD, upd_same, R.len, fi]
      exact ⟨rfl, nH, aD⟩
  · have key : ∀ i, (rs ++ [a])[i]? = some b → i < rs.length ∧ rs[i]? = some b ∧ b ≠ a ∨ i = rs.length ∧ b = a := fun i h => by
      rcases Nat.lt_or_ge i rs.length with l | l
      · rw [List.getElem?_append_left l] at h
        exact .inl ⟨l, h, fun z => by rw [z] at h; rw [(R.row i a h).1] at na; cases na⟩
      · rw [List.getElem?_append_right l] at h
        have e : i = rs.length := by
          have := (List.getElem?_eq_some_iff.mp h).1
          simp at this
          omega
        subst e
        rw [Nat.sub_self] at h
        cases h
        exact .inr ⟨rfl, rfl⟩
    rcases key i h1 with ⟨a1, a2, a3⟩ | ⟨a1, a2⟩
    · rcases key j h2 with ⟨b1, b2, b3⟩ | ⟨b1, b2⟩
      · exact R.inj i j b a2 b2
      · exact (a3 b2).elim
    · rcases key j h2 with ⟨b1, b2, b3⟩ | ⟨b1, b2⟩
      · exact (b3 a2).elim
      · omega
theorem RowsAt.congr {H H' : Hp} {p : Addr} {rs : List Addr} {n : Nat} {f g : Nat → List Nat} (R : RowsAt H H' p rs n f) (h : ∀ i, i < n → f i = g i) : RowsAt H H' p rs n g :=
  ⟨R.len, R.same, R.at_, R.new, fun i a hi => by
    rw [← h i (by rw [← R.len]; exact (List.getElem?_eq_some_iff.mp hi).1)]
    exact R.row i a hi, R.inj⟩
theorem RowsAt.put {H H' : Hp} {p a : Addr} {rs : List Addr} {n i : Nat} {f : Nat → List Nat} (R : RowsAt H H' p rs n f) (hi : rs[i]? = some a) (l : List Nat) :
    RowsAt H (upd H' a (.lst (l.map nV))) p rs n (fun j => if j = i then l else f j) := by
  obtain ⟨h1, h2, h3⟩ := R.row i a hi
  refine ⟨R.len, fun b o hb => ?_, by rw [upd_ne h3.symm]; exact R.at_, R.new, fun j b hj => ?_, R.inj⟩
  · have n1 : b ≠ a := fun z => by rw [z, h2] at hb; cases hb
    rw [upd_ne n1]
    exact R.same b o hb
  · obtain ⟨k1, k2, k3⟩ := R.row j b hj
    by_cases e : j = i
    · subst e
      rw [hi] at hj
      cases hj
      rw [upd_same, if_pos rfl]
      exact ⟨rfl, k2, k3⟩
    · have n1 : b ≠ a := fun z => by subst z; exact e (R.inj j i b hj hi)
      rw [upd_ne n1, if_neg e]
      exact ⟨k1, k2, k3⟩
theorem RowsAt.get {H H' : Hp} {p : Addr} {rs : List Addr} {n : Nat} {f : Nat → List Nat} (R : RowsAt H H' p rs n f) {i : Nat} (hi : i < n) : ∃ a, rs[i]? = some a ∧ (rs.map V.ref)[i]? = some (.ref a) ∧ H' a = some (.lst ((f i).map nV)) ∧ H a = none ∧ a ≠ p := by
  have l : i < rs.length := by rw [R.len]; exact hi
  have h := List.getElem?_eq_getElem l
  obtain ⟨h1, h2, h3⟩ := R.row i _ h
  exact ⟨rs[i], h, by rw [List.getElem?_map, h]; rfl, h1, h2, h3⟩
/-- where a node's row stands -/
def keyO (d : Doc) : Option Nat → Nat
  | none => d.length
  | some n => n
def rowK (d : Doc) (j : Nat) : List Nat := (List.range d.length).filter fun c => decide (keyO d (parOf d c) = j)
/-- whose row stands at j -/
def pkO (d : Doc) (j : Nat) : Option Nat := if j = d.length then none else some j
theorem parOf_lt {d : Doc} {c n : Nat} (h : parOf d c = some n) : n < c := (lastAt_some.mp h).1
theorem key_pk {d : Doc} {c j : Nat} (hc : c < d.length) : keyO d (parOf d c) = j ↔ parOf d c = pkO d j := by
  unfold pkO
  cases e : parOf d c with
  | none =>
    show d.length = j ↔ _
    constructor
    · rintro rfl
      rw [if_pos rfl]
    · intro h
      split at h
      · rename_i z
        exact z.symm
      · cases h
  | some n =>
    have := parOf_lt e
    show n = j ↔ _
    constructor
    · rintro rfl
      rw [if_neg (by omega)]
    · intro h
      split at h
      · cases h
      · cases h
        rfl
theorem rowK_eq {d : Doc} {j : Nat} : rowK d j = rowL d (pkO d j) := by
  unfold rowK rowL
  refine List.filter_congr fun c hc => ?_
  rw [Bool.eq_iff_iff]
  simp only [decide_eq_true_eq]
  exact key_pk (List.mem_range.mp hc)
theorem rowK_none {d : Doc} : rowK d d.length = rowL d none := by rw [rowK_eq, pkO, if_pos rfl]
theorem rowK_some {d : Doc} {n : Nat} (h : n < d.length) : rowK d n = rowL d (some n) := by rw [rowK_eq, pkO, if_neg (by omega)]
/-- the rows behind i nodes -/
def rowsTo (d : Doc) (i j : Nat) : List Nat := (List.range i).filter fun c => decide (keyO d (parOf d c) = j)
theorem rowsTo_step {d : Doc} {i : Nat} : rowsTo d (i + 1) = fun j => if j = keyO d (parOf d i) then rowsTo d i (keyO d (parOf d i)) ++ [i] else rowsTo d i j := by
  funext j
  unfold rowsTo
  rw [filter_step]
  by_cases e : keyO d (parOf d i) = j
  · rw [decide_eq_true e, if_pos rfl, if_pos e.symm, e]
  · rw [decide_eq_false e, if_neg Bool.false_ne_true, if_neg (fun z => e z.symm)]
theorem keyO_lt {d : Doc} {c : Nat} (hc : c < d.length) : keyO d (parOf d c) < d.length + 1 := by
  cases e : parOf d c with
  | none => exact Nat.lt_succ_self _
  | some n =>
    have := parOf_lt e
    show n < d.length + 1
    omega
structure RowsInv (H : Hp) (p : Addr) (rs : List Addr) (d : Doc) (i : Nat) (H' : Hp) : Prop where
  rows : RowsAt H H' p rs (d.length + 1) (rowsTo d i)
def spRowsOf (K : PySem.W.Frag) : Sp := fun vs H Q _ => ∃ v d, vs = [v] ∧ DocAt K H v d ∧ IsDoc d ∧ d.length ≤ 20000 ∧ ∀ H' p rs, RowsAt H H' p rs (d.length + 1) (rowK d) → Q (.ref p) H'
/-- how deep a document is -/
structure IsDeep (d : Doc) (m : Nat) : Prop where
  none_ : d.length = 0 → m = 0
  le : ∀ i, i < d.length → dep d i + 1 ≤ m
  at_ : 0 < d.length → ∃ i, i < d.length ∧ m = dep d i + 1
theorem IsDeep.eq {d : Doc} {m n : Nat} (a : IsDeep d m) (b : IsDeep d n) : m = n := by
  rcases Nat.eq_zero_or_pos d.length with z | z
  · rw [a.none_ z, b.none_ z]
  · obtain ⟨i, h1, h2⟩ := a.at_ z
    obtain ⟨j, h3, h4⟩ := b.at_ z
    have := a.le j h3
    have := b.le i h1
    omega
/-- how many children the node, or the top, with the most has -/
structure IsBroad (d : Doc) (m : Nat) : Prop where
  le : ∀ j, j ≤ d.length → (rowK d j).length ≤ m
  at_ : m = 0 ∨ ∃ j, j ≤ d.length ∧ m = (rowK d j).length
theorem IsBroad.eq {d : Doc} {m n : Nat} (a : IsBroad d m) (b : IsBroad d n) : m = n := by
  have key : ∀ {m n}, IsBroad d m → IsBroad d n → m ≤ n := fun a b => by
    rcases a.at_ with e | ⟨j, h1, h2⟩
    · omega
    · have := b.le j h1
      omega
  exact Nat.le_antisymm (key a b) (key b a)

/-! ### things that may be documents -/
inductive EK where
  | ok (c : Nat) (k : Int)
  | bad
/-- an entry as it is told -/
inductive RepE (K : PySem.W.Frag) (H : Hp) : V → EK → Prop where
  | ok {b : Addr} {c : Nat} {k : Int} (h : SqT K H b [.str ⟨#[c]⟩, .int k]) : RepE K H (.ref b) (.ok c k)
  | kind {x : V} {n : String} (h : TyX K H x (.type n)) (hn : n ∈ kinds) (ht : n ≠ "tuple") : RepE K H x .bad
  | len {b : Addr} {ys : List V} (h : SqT K H b ys) (hl : ys.length ≠ 2) : RepE K H (.ref b) .bad
  | fst {b : Addr} {y1 y2 : V} {n : String} (h : SqT K H b [y1, y2]) (h1 : TyX K H y1 (.type n)) (hn : n ∈ kinds) (hs : n ≠ "str") : RepE K H (.ref b) .bad
  | txt {b : Addr} {z : Str} {y2 : V} (h : SqT K H b [.str z, y2]) (hz : z.length ≠ 1) (hl : z.length ≤ 10000) : RepE K H (.ref b) .bad
  | snd {b : Addr} {c : Nat} {y2 : V} {n : String} (h : SqT K H b [.str ⟨#[c]⟩, y2]) (h2 : TyX K H y2 (.type n)) (hn : n ∈ kinds) (hi : n ≠ "int") : RepE K H (.ref b) .bad
theorem RepE.keep {K : PySem.W.Frag} {H H' : Hp} {x : V} {e : EK} (k : Keep H H') (r : RepE K H x e) : RepE K H' x e := by
  cases r with
  | ok h => exact .ok (k.seqT h)
  | kind h hn ht => exact .kind (k.ty h) hn ht
  | len h hl => exact .len (k.seqT h) hl
  | fst h h1 hn hs => exact .fst (k.seqT h) (k.ty h1) hn hs
  | txt h hz hl => exact .txt (k.seqT h) hz hl
  | snd h h2 hn hi => exact .snd (k.seqT h) (k.ty h2) hn hi
structure RepEs (K : PySem.W.Frag) (H : Hp) (xs : List V) (es : List EK) : Prop where
  len : xs.length = es.length
  at_ : ∀ (i : Nat) (x : V) (e : EK), xs[i]? = some x → es[i]? = some e → RepE K H x e
theorem RepEs.keep {K : PySem.W.Frag} {H H' : Hp} {xs : List V} {es : List EK} (k : Keep H H') (r : RepEs K H xs es) : RepEs K H' xs es :=
  ⟨r.len, fun i x e h1 h2 => (r.at_ i x e h1 h2).keep k⟩
def markB (c : Nat) : Bool := decide (97 ≤ c) && decide (c ≤ 104)
/-- whether entries go on behind a node, the next depth being at most m -/
def fOk : Int → List EK → Bool
  | _, [] => true
  | m, .ok c k :: r => if markB c = true ∧ 0 ≤ k ∧ k ≤ m then fOk (k + 1) r else false
  | _, .bad :: _ => false
/-- a thing as it is told: no tuple, or its entries -/
inductive RepF (K : PySem.W.Frag) (H : Hp) : V → Option (List EK) → Prop where
  | kind {v : V} {n : String} (h : TyX K H v (.type n)) (hn : n ∈ kinds) (ht : n ≠ "tuple") : RepF K H v none
  | tup {a : Addr} {xs : List V} {es : List EK} (h : SqT K H a xs) (r : RepEs K H xs es) : RepF K H (.ref a) (some es)
theorem RepF.keep {K : PySem.W.Frag} {H H' : Hp} {v : V} {o : Option (List EK)} (k : Keep H H') (r : RepF K H v o) : RepF K H' v o := by
  cases r with
  | kind h hn ht => exact .kind (k.ty h) hn ht
  | tup h r => exact .tup (k.seqT h) (r.keep k)
def forB : Option (List EK) → Bool
  | none => false
  | some es => decide (es.length ≤ 20000) && fOk 0 es
def ekOf (d : Doc) : List EK := d.map fun e => .ok e.1 e.2
theorem DocAt.repF {K : PySem.W.Frag} {H : Hp} {v : V} {d : Doc} (D : DocAt K H v d) : RepF K H v (some (ekOf d)) := by
  obtain ⟨a, xs, rfl, h, E⟩ := D.ex
  refine .tup h ⟨by rw [E.len]; simp [ekOf], fun i x e h1 h2 => ?_⟩
  unfold ekOf at h2
  rw [List.getElem?_map] at h2
  cases hd : d[i]? with
  | none => rw [hd] at h2; cases h2
  | some u =>
    rw [hd] at h2
    cases h2
    obtain ⟨b, rfl, hb⟩ := E.at_ i x u h1 hd
    exact .ok hb
theorem fOk_doc : ∀ (r d : Doc), IsDoc (d ++ r) → fOk (mostOf d) (ekOf r) = true
  | [], _, _ => rfl
  | (c, k) :: r, d, h => by
    have hi : d.length < (d ++ (c, k) :: r).length := by simp
    have e1 : (d ++ (c, k) :: r)[d.length]? = some (c, k) := by simp
    have hm := h.marks d.length hi
    rw [mrk_get e1] at hm
    have hn := h.next hi
    rw [dep_get e1, List.take_left'  rfl] at hn
    show (if markB c = true ∧ 0 ≤ (k : Int) ∧ (k : Int) ≤ mostOf d then fOk ((k : Int) + 1) (ekOf r) else false) = true
    have hn : k ≤ mostOf d := hn
    rw [if_pos ⟨by unfold markB; rw [decide_eq_true hm.1, decide_eq_true hm.2]; rfl, by omega, by omega⟩]
    have := fOk_doc r (d ++ [(c, k)]) (by rw [List.append_assoc]; exact h)
    rw [most_snoc] at this
    exact this
theorem forB_doc {d : Doc} (h : IsDoc d) (hl : d.length ≤ 20000) : forB (some (ekOf d)) = true := by
  show (decide ((ekOf d).length ≤ 20000) && fOk 0 (ekOf d)) = true
  rw [decide_eq_true (by unfold ekOf; rw [List.length_map]; exact hl)]
  exact fOk_doc d [] h

/-! ### documents side by side and below -/
theorem dep_appR {d r : Doc} {i : Nat} : dep (d ++ r) (d.length + i) = dep r i := by
  unfold dep
  rw [List.getElem?_append_right (by omega), show d.length + i - d.length = i by omega]
theorem mrk_appR {d r : Doc} {i : Nat} : mrk (d ++ r) (d.length + i) = mrk r i := by
  unfold mrk
  rw [List.getElem?_append_right (by omega), show d.length + i - d.length = i by omega]
theorem IsDoc.app {d r : Doc} (h : IsDoc d) (g : IsDoc r) : IsDoc (d ++ r) := by
  refine ⟨fun i hi => ?_, ?_, fun i hi => ?_⟩
  · rw [List.length_append] at hi
    rcases Nat.lt_or_ge i d.length with l | l
    · rw [mrk_app l]
      exact h.marks i l
    · rw [show i = d.length + (i - d.length) by omega, mrk_appR]
      exact g.marks _ (by omega)
  · rcases Nat.eq_zero_or_pos d.length with z | z
    · rw [List.length_eq_zero_iff] at z
      rw [z, List.nil_append]
      exact g.first
    · rw [dep_app z]
      exact h.first
  · rw [List.length_append] at hi
    rcases Nat.lt_or_ge (i + 1) d.length with l | l
    · rw [dep_app l, dep_app (by omega)]
      exact h.step i l
    · rcases Nat.lt_or_ge i d.length with l2 | l2
      · rw [show i + 1 = d.length + 0 by omega, dep_appR, g.first]
        exact Nat.zero_le _
      · rw [show i + 1 = d.length + (i - d.length + 1) by omega, dep_appR, show i = d.length + (i - d.length) by omega, dep_appR]
        rw [show d.length + (i - d.length) - d.length = i - d.length by omega]
        exact g.step _ (by omega)
/-- a document's nodes one deeper -/
def upD (d : Doc) : Doc := d.map fun e => (e.1, e.2 + 1)
theorem upD_len {d : Doc} : (upD d).length = d.length := by simp [upD]
theorem dep_up {d : Doc} {i : Nat} (h : i < d.length) : dep (upD d) i = dep d i + 1 := by
  unfold dep upD
  rw [List.getElem?_map, List.getElem?_eq_getElem h]
  rfl
theorem mrk_up {d : Doc} {i : Nat} (h : i < d.length) : mrk (upD d) i = mrk d i := by
  unfold mrk upD
  rw [List.getElem?_map, List.getElem?_eq_getElem h]
  rfl
theorem IsDoc.below {d : Doc} {c : Nat} (h : IsDoc d) (hc : isMk c) : IsDoc ([(c, 0)] ++ upD d) := by
  refine ⟨fun i hi => ?_, rfl, fun i hi => ?_⟩
  · rw [List.length_append, upD_len] at hi
    have hi : i < 1 + d.length := hi
    cases i with
    | zero => exact hc
    | succ i =>
      rw [show i + 1 = [(c, 0)].length + i by show i + 1 = 1 + i; omega, mrk_appR, mrk_up (by omega)]
      exact h.marks i (by omega)
  · rw [List.length_append, upD_len] at hi
    have hi : i + 1 < 1 + d.length := hi
    rw [show i + 1 = [(c, 0)].length + i by show i + 1 = 1 + i; omega, dep_appR, dep_up (by omega)]
    cases i with
    | zero =>
      rw [h.first]
      exact Nat.le_refl _
    | succ i =>
      rw [show i + 1 = [(c, 0)].length + i by show i + 1 = 1 + i; omega, dep_appR, dep_up (by omega)]
      have := h.step i (by omega)
      rw [show [(c, 0)].length + i = i + 1 by show 1 + i = i + 1; omega]
      omega
theorem Entries.app {K : PySem.W.Frag} {H : Hp} {xs ys : List V} {d e : Doc} (E : Entries K H xs d) (F : Entries K H ys e) : Entries K H (xs ++ ys) (d ++ e) := by
  refine ⟨by rw [List.length_append, List.length_append, E.len, F.len], fun i x u h1 h2 => ?_⟩
  rcases Nat.lt_or_ge i xs.length with l | l
  · rw [List.getElem?_append_left l] at h1
    rw [List.getElem?_append_left (by rw [← E.len]; exact l)] at h2
    exact E.at_ i x u h1 h2
  · rw [List.getElem?_append_right l] at h1
    rw [List.getElem?_append_right (by rw [← E.len]; exact l), ← E.len] at h2
    exact F.at_ _ x u h1 h2
theorem catA_go {K : PySem.W.Frag} {H : Hp} {a b : Addr} {xs ys : List V} {Q : VK} (hx : SqT K H a xs) (hy : SqT K H b ys) (hl : xs.length + ys.length ≤ sizeLine) (q : ∀ p H', Same H H' → SqT K H' p (xs ++ ys) → Q (.ref p) H') : rCatA K (.ref a) (.ref b) H Q := by
  refine ⟨a, b, xs, ys, rfl, rfl, hx, hy, hl, fun z => ?_, fun _ z => ?_, fun _ _ p np => ?_⟩
  · rw [z, List.nil_append] at q
    exact q b H (Same.refl _) hy
  · rw [z, List.append_nil] at q
    exact q a H (Same.refl _) hx
  · exact q p _ (same_new np) (sqT_of upd_same)

def topS (i : Nat) : Stmt := PySem.Challenge.pw_everymatch_k07_depth_and_breadth.main.body.getD i (.Pass ⟨0, 0, 0, 0⟩)
abbrev s_is_integer : Stmt := topS 6
abbrev nm_is_integer : List Str := ["thing"]
theorem sc_is_integer : FnScope nm_is_integer ["thing"] (defScope s_is_integer) := ⟨rfl, rfl, rfl, by decide +kernel, rfl, by decide +kernel, by decide +kernel⟩
abbrev s_is_below : Stmt := topS 7
abbrev nm_is_below : List Str := ["thing", "bound"]
theorem sc_is_below : FnScope nm_is_below ["thing", "bound"] (defScope s_is_below) := ⟨rfl, rfl, rfl, by decide +kernel, rfl, by decide +kernel, by decide +kernel⟩
abbrev s_is_mark : Stmt := topS 8
abbrev nm_is_mark : List Str := ["thing"]
theorem sc_is_mark : FnScope nm_is_mark ["thing"] (defScope s_is_mark) := ⟨rfl, rfl, rfl, by decide +kernel, rfl, by decide +kernel, by decide +kernel⟩
abbrev s_is_forest : Stmt := topS 10
abbrev nm_is_forest : List Str := ["thing", "most", "entry"]
theorem sc_is_forest : FnScope nm_is_forest ["thing"] (defScope s_is_forest) := ⟨rfl, rfl, rfl, by decide +kernel, rfl, by decide +kernel, by decide +kernel⟩
abbrev s_need_document : Stmt := topS 11
abbrev nm_need_document : List Str := ["document"]
theorem sc_need_document : FnScope nm_need_document ["document"] (defScope s_need_document) := ⟨rfl, rfl, rfl, by decide +kernel, rfl, by decide +kernel, by decide +kernel⟩
abbrev s_parents_of : Stmt := topS 12
abbrev nm_parents_of : List Str := ["document", "parents", "above", "node", "mark", "depth"]
theorem sc_parents_of : FnScope nm_parents_of ["document"] (defScope s_parents_of) := ⟨rfl, rfl, rfl, by decide +kernel, rfl, by decide +kernel, by decide +kernel⟩
abbrev s_rows_of : Stmt := topS 13
abbrev nm_rows_of : List Str := ["document", "rows", "node", "parent", "row", "k"]
theorem sc_rows_of : FnScope nm_rows_of ["document"] (defScope s_rows_of) := ⟨rfl, rfl, rfl, by decide +kernel, rfl, by decide +kernel, by decide +kernel⟩
abbrev s_depth_of : Stmt := topS 15
abbrev nm_depth_of : List Str := ["document", "mark", "depth"]
theorem sc_depth_of : FnScope nm_depth_of ["document"] (defScope s_depth_of) := ⟨rfl, rfl, rfl, by decide +kernel, rfl, by decide +kernel, by decide +kernel⟩
abbrev s_breadth_of : Stmt := topS 16
abbrev nm_breadth_of : List Str := ["document", "row"]
theorem sc_breadth_of : FnScope nm_breadth_of ["document"] (defScope s_breadth_of) := ⟨rfl, rfl, rfl, by decide +kernel, rfl, by decide +kernel, by decide +kernel⟩
abbrev s__law_feed : Stmt := topS 18
abbrev nm__law_feed : List Str := ["script", "k", "cell"]
theorem sc__law_feed : FnScope nm__law_feed ["script", "k"] (defScope s__law_feed) := ⟨rfl, rfl, rfl, by decide +kernel, rfl, by decide +kernel, by decide +kernel⟩
abbrev s__law_draw : Stmt := topS 19
abbrev nm__law_draw : List Str := ["feed", "many", "rest", "got", "stir"]
theorem sc__law_draw : FnScope nm__law_draw ["feed", "many"] (defScope s__law_draw) := ⟨rfl, rfl, rfl, by decide +kernel, rfl, by decide +kernel, by decide +kernel⟩
abbrev s__law_one : Stmt := topS 20
abbrev nm__law_one : List Str := ["feed", "things"]
theorem sc__law_one : FnScope nm__law_one ["feed", "things"] (defScope s__law_one) := ⟨rfl, rfl, rfl, by decide +kernel, rfl, by decide +kernel, by decide +kernel⟩
abbrev s__law_document : Stmt := topS 21
abbrev nm__law_document : List Str := ["feed", "most", "marks", "many", "way", "got", "depth", "turn", "steps"]
theorem sc__law_document : FnScope nm__law_document ["feed", "most"] (defScope s__law_document) := ⟨rfl, rfl, rfl, by decide +kernel, rfl, by decide +kernel, by decide +kernel⟩
abbrev s__law_grown : Stmt := topS 22
abbrev nm__law_grown : List Str := ["cells", "got", "most", "cell", "depth"]
theorem sc__law_grown : FnScope nm__law_grown ["cells"] (defScope s__law_grown) := ⟨rfl, rfl, rfl, by decide +kernel, rfl, by decide +kernel, by decide +kernel⟩
abbrev s__law_drawn : Stmt := topS 23
abbrev nm__law_drawn : List Str := ["feed", "script", "most"]
theorem sc__law_drawn : FnScope nm__law_drawn ["feed", "script", "most"] (defScope s__law_drawn) := ⟨rfl, rfl, rfl, by decide +kernel, rfl, by decide +kernel, by decide +kernel⟩
abbrev s__law_parents : Stmt := topS 24
abbrev nm__law_parents : List Str := ["document", "got", "open_nodes", "node", "mark", "depth"]
theorem sc__law_parents : FnScope nm__law_parents ["document"] (defScope s__law_parents) := ⟨rfl, rfl, rfl, by decide +kernel, rfl, by decide +kernel, by decide +kernel⟩
abbrev s__law_depth : Stmt := topS 25
abbrev nm__law_depth : List Str := ["above", "most", "node", "many", "here", "turn"]
theorem sc__law_depth : FnScope nm__law_depth ["above"] (defScope s__law_depth) := ⟨rfl, rfl, rfl, by decide +kernel, rfl, by decide +kernel, by decide +kernel⟩
abbrev s__law_breadth : Stmt := topS 26
abbrev nm__law_breadth : List Str := ["above", "most", "parent", "other"]
theorem sc__law_breadth : FnScope nm__law_breadth ["above"] (defScope s__law_breadth) := ⟨rfl, rfl, rfl, by decide +kernel, rfl, by decide +kernel, by decide +kernel⟩
abbrev s_law : Stmt := topS 27
abbrev nm_law : List Str := ["script", "feed", "one", "other", "below", "document", "above", "mark", "depth"]
theorem sc_law : FnScope nm_law ["script"] (defScope s_law) := ⟨rfl, rfl, rfl, by decide +kernel, rfl, by decide +kernel, by decide +kernel⟩
structure Top (K : PySem.W.Frag) (mg : Str → Option Value) (cMatchError cBadDocument : Addr) : Prop where
  d_is_integer : DefAt K mg "is_integer" s_is_integer ["thing"]
  d_is_below : DefAt K mg "is_below" s_is_below ["thing", "bound"]
  d_is_mark : DefAt K mg "is_mark" s_is_mark ["thing"]
  d_is_forest : DefAt K mg "is_forest" s_is_forest ["thing"]
  d_need_document : DefAt K mg "need_document" s_need_document ["document"]
  d_parents_of : DefAt K mg "parents_of" s_parents_of ["document"]
  d_rows_of : DefAt K mg "rows_of" s_rows_of ["document"]
  d_depth_of : DefAt K mg "depth_of" s_depth_of ["document"]
  d_breadth_of : DefAt K mg "breadth_of" s_breadth_of ["document"]
  d__law_feed : DefAt K mg "_law_feed" s__law_feed ["script", "k"]
  d__law_draw : DefAt K mg "_law_draw" s__law_draw ["feed", "many"]
  d__law_one : DefAt K mg "_law_one" s__law_one ["feed", "things"]
  d__law_document : DefAt K mg "_law_document" s__law_document ["feed", "most"]
  d__law_grown : DefAt K mg "_law_grown" s__law_grown ["cells"]
  d__law_drawn : DefAt K mg "_law_drawn" s__law_drawn ["feed", "script", "most"]
  d__law_parents : DefAt K mg "_law_parents" s__law_parents ["document"]
  d__law_depth : DefAt K mg "_law_depth" s__law_depth ["above"]
  d__law_breadth : DefAt K mg "_law_breadth" s__law_breadth ["above"]
  n_ValueError : mg "ValueError" = none
  n_bool : mg "bool" = none
  n_enumerate : mg "enumerate" = none
  n_int : mg "int" = none
  n_isinstance : mg "isinstance" = none
  n_len : mg "len" = none
  n_max : mg "max" = none
  n_min : mg "min" = none
  n_range : mg "range" = none
  n_repr : mg "repr" = none
  n_str : mg "str" = none
  n_sum : mg "sum" = none
  n_tuple : mg "tuple" = none
  v_MARKS : ∃ u, mg "MARKS" = some u ∧ RelV (.str "abcdefgh") u
  v_MOST_NODES : ∃ u, mg "MOST_NODES" = some u ∧ RelV (.int 20000) u
  e_MatchError : ExcAt K mg "MatchError" cMatchError
  e_BadDocument : ExcAt K mg "BadDocument" cBadDocument
section
variable {P : Program} {w : World} {K : PySem.W.Frag} {mg : Str → Option Value} {base : Heap} {cMatchError cBadDocument : Addr}
def spFeed (K : PySem.W.Frag) : Sp := fun vs H Q _ => ∃ (a : Addr) (ns : List Int) (k : Int), vs = [.ref a, .int k] ∧ SqL K H a (ns.map V.int) ∧ (∀ z ∈ ns, z.natAbs.log2 ≤ 1048576) ∧ 0 ≤ k ∧ k ≤ 1000 ∧
  ∀ H' p, Same H H' → H p = none → FeedAt H' p 0 → Q (.ref p) H'
theorem ok__law_feed (T : Top K mg cMatchError cBadDocument) : Cl P w K mg base 1 "_law_feed" ["script", "k"] (spFeed K) := by
  refine T.d__law_feed.ok sc__law_feed (fun vs H Q E h => ?_) (fun f cdv A outer s H vs Q E hr h => ?_)
  · obtain ⟨a, ns, k, rfl, _⟩ := h
    rfl
  · refine ⟨_, (pss_cons (ps_set (i := 2) sc__law_feed.nd rfl (.inl rfl) (pe_op op_add (pe_op op_mul pe_int (pv 1)) (pe_callB (cr_sum rfl) (by rfl) T.n_sum (by decide +kernel) (pa_cons (pe_slice sl_list (pv 0) po_none (po_some pe_int)) pa_nil))))
      (C8.pss_cut (ps_if (pt_cmpR op_lt (pv 1) (pe_callB call_len_seq (by rfl) T.n_len (by decide +kernel) (pa_cons (pv 0) pa_nil)) (nomark _)) (pss_one (ps_set (i := 2) sc__law_feed.nd rfl (.inl rfl) (pe_ix ix_list (pv 0) (pv 1) (fun _ _ => rfl)))) pss_nil)
      (pss_one (ps_ret (pe_lst (pa_cons (pe_callB (call_max2 rfl) (by rfl) T.n_max (by decide +kernel) (pa_cons pe_int (pa_cons (pe_op op_sub (pv 2) (pe_op op_pow pe_int pe_int)) pa_nil))) (pa_cons (pe_op op_mod (pe_callTy call_int1 (by rfl) T.n_int (by decide +kernel) (pa_cons (pe_op op_add (pe_op op_mul (pv 2) pe_int) (pe_op op_mul pe_int (pv 1))) pa_nil)) (pe_op op_add (pe_op op_pow pe_int pe_int) pe_int)) (pa_cons pe_int pa_nil)))))))), ?_⟩
    obtain ⟨a, ns, k, rfl, hS, hb, k0, k1, q⟩ := h
    refine ⟨_, rfl, _, _, rfl, rfl, .inl ⟨by decide, by decide⟩, _, rfl, 1, rfl, a, ns.map V.int, rfl, hS, fun p np => ?_⟩
    have s1 : Same H (upd H p (.lst (cutV (ns.map V.int) none (some 1)))) := same_new np
    refine ⟨p, ns.take 1, rfl, sqL_of (by rw [upd_same, show (some 1 : Option Int) = some ((1 : Nat) : Int) from rfl, cut_to, List.map_take]), _, _, rfl, rfl, ?_⟩
    have c0 : (977 * k + (ns.take 1).sum).natAbs.log2 ≤ 1050000 := by
      have h1 := log2_addI (977 * k) (ns.take 1).sum
      have h2 : (977 * k).natAbs.log2 < 32 := log2_lt_of (by omega) (by decide)
      have h3 : (ns.take 1).sum.natAbs.log2 ≤ 1048576 := by
        cases ns with
        | nil => show Nat.log2 0 ≤ _; decide
        | cons z r =>
          have : ((z :: r).take 1).sum = z := by
            show z + 0 = z
            omega
          rw [this]
          exact hb z List.mem_cons_self
      omega
    refine ⟨fun σ' H' => H' = upd H p (.lst (cutV (ns.map V.int) none (some 1))) ∧ ∃ cell : Int, σ' = [some (.ref a), some (.int k), some (.int cell)] ∧ cell.natAbs.log2 ≤ 1050000, ?_, ?_⟩
    · refine ⟨_, rfl, _, rfl, a, ns.map V.int, rfl, .inl (s1.seq hS), _, _, rfl, rfl, _, rfl, ?_⟩
      refine ite2 (fun e => ?_) (fun e => ?_)
      · have e1 : k < ((ns.map V.int).length : Int) := of_decide_eq_true e
        rw [List.length_map] at e1
        obtain ⟨j, rfl⟩ : ∃ j : Nat, k = j := ⟨k.toNat, by omega⟩
        have hj : j < ns.length := by omega
        refine ⟨_, rfl, _, rfl, a, _, _, _, rfl, rfl, s1.seq hS, atI_nat (j := j) (by rw [List.getElem?_map, List.getElem?_eq_getElem hj]; rfl), ?_⟩
        exact ⟨rfl, ns[j], rfl, Nat.le_trans (hb _ (List.getElem_mem hj)) (by decide)⟩
      · exact ⟨rfl, _, rfl, c0⟩
    · rintro σ' H' ⟨rfl, cell, rfl, cb⟩
      refine ⟨_, rfl, _, _, rfl, rfl, ⟨by decide, by decide, by decide⟩, _, _, rfl, rfl, _, _, rfl, ?_⟩
      refine ⟨_, rfl, _, _, rfl, rfl, .inr ⟨by decide, by decide⟩, _, rfl, _, _, rfl, rfl, .inl ⟨by decide, by decide⟩, _, _, rfl, rfl, .inl ⟨_, rfl, ?_⟩⟩
      refine ⟨_, _, rfl, rfl, ⟨by decide, by decide, by decide⟩, _, _, rfl, rfl, _, _, rfl, rfl, (by show (0 : Int) < 10 ^ Int.toNat 39 + 23; decide), ?_⟩
      refine ⟨by show 3 ≤ sizeLine; decide, fun l nl => ?_⟩
      refine q _ l (s1.trans (same_new nl)) (s1.free nl) ⟨_, _, 0, upd_same, ?_, ?_, Int.emod_nonneg _ (by decide), Int.lt_of_lt_of_le (Int.emod_lt_of_pos _ (by decide)) (by decide), Int.le_refl 0, Int.le_refl 0⟩
      · show 0 ≤ (if cell - 10 ^ Int.toNat 18 > 0 then cell - 10 ^ Int.toNat 18 else 0)
        split <;> omega
      · show (if cell - 10 ^ Int.toNat 18 > 0 then cell - 10 ^ Int.toNat 18 else 0).natAbs.log2 < 2000000
        split
        · rename_i e
          have : (cell - 10 ^ Int.toNat 18).natAbs.log2 ≤ cell.natAbs.log2 := log2_le_of (by
            have : (0 : Int) ≤ 10 ^ Int.toNat 18 := by decide
            omega)
          omega
        · show Nat.log2 0 < _
          decide
end

section
variable {P : Program} {w : World} {K : PySem.W.Frag} {mg : Str → Option Value} {base : Heap} {cMatchError cBadDocument : Addr}
def spDraw : Sp := fun vs H Q _ => ∃ p n many, vs = [.ref p, .int many] ∧ FeedAt H p n ∧ n ≤ 1000000000 ∧ 0 < many ∧ many < 10 ^ 100 ∧
  ∀ H' g, But p H H' → FeedAt H' p (n + 1) → 0 ≤ g → g < many → Q (.int g) H'
theorem ok__law_draw (T : Top K mg cMatchError cBadDocument) : Cl P w K mg base 1 "_law_draw" ["feed", "many"] spDraw := by
  refine T.d__law_draw.ok sc__law_draw (fun vs H Q E h => ?_) (fun f cdv A outer s H vs Q E hr h => ?_)
  · obtain ⟨p, n, m, rfl, _⟩ := h
    rfl
  · refine ⟨_, (pss_cons (ps_if (pt_cmpR op_gt (pe_ix ix_list (pv 0) pe_int (fun _ _ => rfl)) pe_int (nomark _)) (pss_cons (ps_set (i := 2) sc__law_draw.nd rfl (.inl rfl) (pe_op op_fdivW (pe_ix ix_list (pv 0) pe_int (fun _ _ => rfl)) (pv 1)))
      (pss_cons (ps_set (i := 3) sc__law_draw.nd rfl (.inl rfl) (pe_op op_sub (pe_ix ix_list (pv 0) pe_int (fun _ _ => rfl)) (pe_op op_mulX (pv 2) (pv 1))))
      (pss_cons (ps_asg (pv 2) (pg_sub (pv 0) pe_int set_list))
      (pss_one (ps_ret (pv 3)))))) pss_nil)
      (pss_cons (ps_asg (pe_op op_add (pe_ix ix_list (pv 0) pe_int (fun _ _ => rfl)) pe_int) (pg_sub (pv 0) pe_int set_list))
      (pss_cons (ps_set (i := 4) sc__law_draw.nd rfl (.inl rfl) (pe_op op_add (pe_ix ix_list (pv 0) pe_int (fun _ _ => rfl)) (pe_op op_mul pe_int (pe_ix ix_list (pv 0) pe_int (fun _ _ => rfl)))))
      (pss_cons (ps_set (i := 4) sc__law_draw.nd rfl (.inl rfl) (pe_op op_mod (pe_callTy call_int1 (by rfl) T.n_int (by decide +kernel) (pa_cons (pe_op op_add (pe_op op_mulX (pe_op op_mulX (pv 4) (pv 4)) (pv 4)) (pe_op op_mul pe_int (pe_ix ix_list (pv 0) pe_int (fun _ _ => rfl)))) pa_nil)) (pe_op op_add (pe_op op_pow pe_int pe_int) pe_int)))
      (pss_cons (ps_set (i := 4) sc__law_draw.nd rfl (.inl rfl) (pe_op op_mod (pe_callTy call_int1 (by rfl) T.n_int (by decide +kernel) (pa_cons (pe_op op_add (pe_op op_mulX (pv 4) (pv 4)) pe_int) pa_nil)) (pe_op op_add (pe_op op_pow pe_int pe_int) pe_int)))
      (pss_one (ps_ret (pe_op op_mod (pe_callTy call_int1 (by rfl) T.n_int (by decide +kernel) (pa_cons (pe_op op_fdivW (pv 4) (pe_op op_pow pe_int pe_int)) pa_nil)) (pv 1))))))))), ?_⟩
    obtain ⟨p, n, many, rfl, F, hn, m0, m1, q⟩ := h
    obtain ⟨x, y, c, h1, x0, xb, y0, y1, c0, c1⟩ := F.ex
    have p400 : ∀ a b : Nat, a < 2 ^ 200 → b < 2 ^ 200 → a * b < 2 ^ (200 + 200) := fun a b h1 h2 => by rw [Nat.pow_add]; exact Nat.mul_lt_mul'' h1 h2
    have mb : many.natAbs.log2 < 400 := log2_lt_of (Nat.lt_of_lt_of_le (by omega : many.natAbs < 10 ^ 100) (by decide)) (by decide)
    refine ⟨_, rfl, p, _, _, _, rfl, rfl, sqL_of h1, atI_nat (j := 0) rfl, _, _, rfl, rfl, _, rfl, ?_⟩
    have ax : ∀ {v : V} {i : Nat}, [V.int x, .int y, .int c][i]? = some v → atI [V.int x, .int y, .int c] (i : Int) = some v := fun h => atI_nat h
    have dm : ∀ z : Int, 0 ≤ z % many ∧ z % many < many := fun z => ⟨Int.emod_nonneg _ (by omega), Int.emod_lt_of_pos _ m0⟩
    refine ite2 (fun e => ?_) (fun e => ?_)
    · have r0 : 0 ≤ x / many := Int.ediv_nonneg x0 (by omega)
      have r1 : x / many ≤ x := Int.ediv_le_self _ x0
      have rb : (x / many).natAbs.log2 < 2000000 := Nat.lt_of_le_of_lt (log2_le_of (by omega)) xb
      have dd : x - x / many * many = x % many := by
        rw [Int.emod_def, Int.mul_comm]
      refine ⟨_, rfl, p, _, _, _, rfl, rfl, sqL_of h1, ax (i := 0) rfl, _, rfl, _, _, rfl, rfl, ⟨m0, by omega⟩, ?_⟩
      refine ⟨_, rfl, p, _, _, _, rfl, rfl, sqL_of h1, ax (i := 0) rfl, _, rfl, _, rfl, _, _, rfl, rfl, by unfold CMulX; omega, _, _, rfl, rfl, ?_⟩
      refine ⟨_, rfl, _, rfl, p, _, _, 0, rfl, rfl, h1, rfl, ?_⟩
      refine ⟨_, rfl, ?_⟩
      show Q (V.int (x - x / many * many)) _
      rw [dd]
      exact q _ _ but_upd ⟨_, _, _, upd_same, r0, rb, y0, y1, c0, by omega⟩ (dm _).1 (dm _).2
    · refine ⟨_, rfl, p, _, _, _, rfl, rfl, sqL_of h1, ax (i := 2) rfl, _, _, rfl, rfl, ?_⟩
      refine ⟨_, rfl, p, _, _, 2, rfl, rfl, h1, rfl, ?_⟩
      have h2 : upd H p (.lst [.int x, .int y, .int (c + 1)]) p = some (.lst [.int x, .int y, .int (c + 1)]) := upd_same
      have ax2 : ∀ {v : V} {i : Nat}, [V.int x, .int y, .int (c + 1)][i]? = some v → atI [V.int x, .int y, .int (c + 1)] (i : Int) = some v := fun h => atI_nat h
      have s0 : (y + 6700417 * (c + 1)).natAbs < 2 ^ 200 := by
        have : (10 : Int) ^ 40 + 6700417 * 1000000001 < 2 ^ 200 := by decide
        omega
      have sb := log2_lt_of s0 (by decide)
      refine ⟨_, rfl, p, _, _, _, rfl, rfl, sqL_of h2, ax2 (i := 1) rfl, _, rfl, p, _, _, _, rfl, rfl, sqL_of h2, ax2 (i := 2) rfl, _, _, rfl, rfl, .inl ⟨by decide, by decide⟩, _, _, rfl, rfl, ?_⟩
      obtain ⟨z, hz⟩ : ∃ z, z = y + 6700417 * (c + 1) := ⟨_, rfl⟩
      rw [← hz] at s0 sb
      have sb2 : (z * z).natAbs.log2 < 200 + 200 := log2_lt_of (by rw [Int.natAbs_mul]; exact p400 _ _ s0 s0) (by decide)
      have m1' : CMulX z z := by unfold CMulX; omega
      have m2' : CMulX (z * z) z := by unfold CMulX; omega
      refine ⟨_, rfl, _, rfl, _, _, rfl, rfl, by rw [hz] at m1'; exact m1', _, rfl, _, _, rfl, rfl, by rw [hz] at m2'; exact m2', _, rfl, p, _, _, _, rfl, rfl, sqL_of h2, ax2 (i := 2) rfl, _, _, rfl, rfl, .inl ⟨by decide, by decide⟩, _, _, rfl, rfl, .inl ⟨_, rfl, ?_⟩⟩
      refine ⟨_, _, rfl, rfl, ⟨by decide, by decide, by decide⟩, _, _, rfl, rfl, _, _, rfl, rfl, (by show (0 : Int) < 10 ^ Int.toNat 43 + 57; decide), ?_⟩
      obtain ⟨u, hu⟩ : ∃ u, u = (z * z * z + 15485863 * (c + 1)) % (10 ^ 43 + 57) := ⟨_, rfl⟩
      have u0 : u.natAbs < 2 ^ 150 := by
        have h1 : 0 ≤ u := by rw [hu]; exact Int.emod_nonneg _ (by decide)
        have h2 : u < 10 ^ 43 + 57 := by rw [hu]; exact Int.emod_lt_of_pos _ (by decide)
        have : (10 : Int) ^ 43 + 57 < 2 ^ 150 := by decide
        omega
      have ub := log2_lt_of u0 (by decide)
      have m3 : CMulX u u := by unfold CMulX; omega
      rw [hu, hz] at m3
      refine ⟨_, rfl, _, rfl, _, _, rfl, rfl, m3, _, _, rfl, rfl, .inl ⟨_, rfl, ?_⟩⟩
      refine ⟨_, _, rfl, rfl, ⟨by decide, by decide, by decide⟩, _, _, rfl, rfl, _, _, rfl, rfl, (by show (0 : Int) < 10 ^ Int.toNat 38 + 133; decide), ?_⟩
      refine ⟨_, rfl, _, _, rfl, rfl, ⟨by decide, by decide, by decide⟩, _, _, rfl, rfl, ⟨by decide, by decide⟩, .inl ⟨_, rfl, ?_⟩⟩
      refine ⟨_, rfl, _, _, rfl, rfl, m0, ?_⟩
      exact q _ _ but_upd ⟨_, _, _, upd_same, x0, xb, y0, y1, by omega, by omega⟩ (dm _).1 (dm _).2
end

section
variable {P : Program} {w : World} {K : PySem.W.Frag} {mg : Str → Option Value} {base : Heap} {cMatchError cBadDocument : Addr}
def spLGrown (K : PySem.W.Frag) : Sp := fun vs H Q _ => ∃ a, ∃ ns : List Int, vs = [.ref a] ∧ SqL K H a (ns.map V.int) ∧ ns.length ≤ 1000 ∧
  ∀ H' v d, Same H H' → DocAt K H' v d → IsDoc d → d.length ≤ ns.length → Q v H'
theorem ok__law_grown (T : Top K mg cMatchError cBadDocument) : Cl P w K mg base 1 "_law_grown" ["cells"] (spLGrown K) := by
  refine T.d__law_grown.ok sc__law_grown (fun vs H Q E h => ?_) (fun f cdv A outer s H vs Q E hr h => ?_)
  · obtain ⟨_, _, rfl, _⟩ := h
    rfl
  · refine ⟨_, (pss_cons (ps_par (i := 1) (j := 2) (by rfl) sc__law_grown.nd rfl rfl (by decide) rfl rfl (pa_cons (pe_lst pa_nil) (pa_cons pe_int pa_nil)) (by rfl))
      (pss_cons (ps_for (passes_of rfl) rfl (pi_list (pv 0)) (pg_name (i := 3) sc__law_grown.nd rfl (.inl rfl)) (pss_cons (ps_set (i := 4) sc__law_grown.nd rfl (.inl rfl) (pe_op op_mod (pe_callTy call_int1 (by rfl) T.n_int (by decide +kernel) (pa_cons (pv 3) pa_nil)) (pe_op op_add (pv 2) pe_int)))
      (pss_cons (ps_expr (pe_bm PySem.F.plainAttrs_list PySem.F.slot_list_append PySem.F.type_list_append mt_append (pv 1) (pa_cons (pe_tup (pa_cons (pe_ix ix_str pe_str (pe_op op_mod (pe_callTy call_int1 (by rfl) T.n_int (by decide +kernel) (pa_cons (pe_op op_fdivW (pv 3) (pe_op op_add (pv 2) pe_int)) pa_nil)) pe_int) (fun _ _ => rfl)) (pa_cons (pv 4) pa_nil))) pa_nil)))
      (pss_one (ps_set (i := 2) sc__law_grown.nd rfl (.inl rfl) (pe_op op_add (pv 4) pe_int))))))
      (pss_one (ps_ret (pe_callTy call_tuple_of (by rfl) T.n_tuple (by decide +kernel) (pa_cons (pv 1) pa_nil)))))), ?_⟩
    obtain ⟨a, ns, rfl, hS, hl, q⟩ := h
    refine ⟨Nat.zero_le _, fun gt ng => ⟨_, _, rfl, ?_⟩⟩
    refine ⟨_, rfl, a, rfl, ⟨_, (same_new ng).seq hS⟩, for_list (xs := ns.map V.int) (fun i σ H' => ∃ x3 x4 xs d, σ = [some (.ref a), some (.ref gt), some (.int (mostOf d)), x3, x4] ∧ Same H H' ∧ H' gt = some (.lst xs) ∧ Entries K H' xs d ∧ IsDoc d ∧ d.length = i)
      ⟨none, none, [], [], rfl, same_new ng, upd_same, Entries.nil, IsDoc.nil, rfl⟩ (fun i σ H' _ ⟨_, _, _, _, _, sm, _⟩ => sm.seq hS) ?_ ?_⟩
    · rintro i x σ H' hx ⟨x3, x4, xs, d, rfl, sm, hg, E, D, ld⟩
      have hi : i < ns.length := by
        have := (List.getElem?_eq_some_iff.mp hx).1
        rwa [List.length_map] at this
      obtain ⟨z, rfl⟩ : ∃ z, x = .int z := by
        rw [List.getElem?_map, List.getElem?_eq_getElem hi] at hx
        exact ⟨_, (Option.some.inj hx).symm⟩
      have ml := D.most_le
      have m0 : (0 : Int) < mostOf d + 1 := by omega
      have mb : ((mostOf d : Int) + 1).natAbs.log2 < 9000 := Nat.lt_of_lt_of_le (log2_lt_of (by omega : ((mostOf d : Int) + 1).natAbs < 2 ^ 20) (by decide)) (by decide)
      refine ⟨_, rfl, .inl ⟨_, rfl, _, rfl, _, _, rfl, rfl, _, _, rfl, rfl, m0, ?_⟩⟩
      refine ⟨_, rfl, .inl ⟨rfl, _, sqL_of hg⟩, _, rfl, _, rfl, _, _, rfl, rfl, _, _, rfl, rfl, ⟨m0, mb⟩, .inl ⟨_, rfl, _, _, rfl, rfl, (by show (0 : Int) < 8; decide), ?_⟩⟩
      obtain ⟨j, ej, hj⟩ : ∃ j : Nat, z / ((mostOf d : Int) + 1) % 8 = (j : Int) ∧ j < 8 := by
        have h1 := Int.emod_nonneg (z / ((mostOf d : Int) + 1)) (by decide : (8 : Int) ≠ 0)
        have h2 := Int.emod_lt_of_pos (z / ((mostOf d : Int) + 1)) (by decide : (0 : Int) < 8)
        exact ⟨(z / ((mostOf d : Int) + 1) % 8).toNat, by omega, by omega⟩
      obtain ⟨k, ek, hk⟩ : ∃ k : Nat, z % ((mostOf d : Int) + 1) = (k : Int) ∧ k ≤ mostOf d := by
        have h1 := Int.emod_nonneg z (by omega : ((mostOf d : Int) + 1) ≠ 0)
        have h2 := Int.emod_lt_of_pos z m0
        exact ⟨(z % ((mostOf d : Int) + 1)).toNat, by omega, by omega⟩
      refine ⟨_, _, 97 + j, rfl, congrArg V.int ej, by decide, ?_, _, rfl, by show 2 ≤ sizeLine; decide, fun a6 n6 => ?_⟩
      · match j, hj with
        | 0, _ => rfl
        | 1, _ => rfl
        | 2, _ => rfl
        | 3, _ => rfl
        | 4, _ => rfl
        | 5, _ => rfl
        | 6, _ => rfl
        | 7, _ => rfl
        | n + 8, h => omega
      · have S6 := same_new (o := .tup [.str ⟨#[97 + j]⟩, .int (z % ((mostOf d : Int) + 1))]) n6
        have n6g : gt ≠ a6 := fun z0 => by rw [← z0, hg] at n6; cases n6
        refine ⟨gt, xs, _, rfl, rfl, S6 _ _ hg, Nat.lt_of_lt_of_le (by rw [E.len]; omega : xs.length < 1001) (by decide), ?_⟩
        refine ⟨_, rfl, _, _, rfl, rfl, ?_⟩
        have KU : Keep (upd H' a6 (.tup [.str ⟨#[97 + j]⟩, .int (z % ((mostOf d : Int) + 1))])) (upd (upd H' a6 (.tup [.str ⟨#[97 + j]⟩, .int (z % ((mostOf d : Int) + 1))])) gt (.lst (xs ++ [.ref a6]))) := Keep.upd (S6 _ _ hg)
        have tup : SqT K (upd (upd H' a6 (.tup [.str ⟨#[97 + j]⟩, .int (z % ((mostOf d : Int) + 1))])) gt (.lst (xs ++ [.ref a6]))) a6 [.str ⟨#[97 + j]⟩, .int (k : Nat)] := by
          have := KU.seqT (K := K) (sqT_of (upd_same (H := H') (a := a6) (o := .tup [.str ⟨#[97 + j]⟩, .int (z % ((mostOf d : Int) + 1))])))
          rw [ek] at this
          rw [ek]
          exact this
        refine ⟨some (.int z), some (.int (z % ((mostOf d : Int) + 1))), xs ++ [.ref a6], d ++ [(97 + j, k)], ?_, ?_, upd_same, ((E.keep (Keep.of S6)).keep KU).snoc ⟨a6, rfl, tup⟩, D.snoc ⟨by omega, by omega⟩ hk, by simp [ld]⟩
        · rw [most_snoc]
          exact congrArg (fun y => [some (V.ref a), some (V.ref gt), some (V.int y), some (.int z), some (.int (z % ((mostOf d : Int) + 1)))]) (by rw [ek]; omega : z % ((mostOf d : Int) + 1) + 1 = ((k + 1 : Nat) : Int))
        · intro b o hb
          have nbg : b ≠ gt := fun z0 => by rw [z0, ng] at hb; cases hb
          rw [upd_ne nbg]
          exact S6 _ _ (sm b o hb)
    · rintro σ H' ⟨x3, x4, xs, d, rfl, sm, hg, E, D, ld⟩
      refine ⟨_, rfl, gt, xs, rfl, .inl ⟨sqL_of hg, fun l nl => ?_⟩⟩
      have S := same_new (o := .tup xs) nl
      rw [List.length_map] at ld
      exact q _ _ d (sm.trans S) ⟨l, xs, rfl, sqT_of upd_same, E.keep (Keep.of S)⟩ D (by omega)
end

section
variable {P : Program} {w : World} {K : PySem.W.Frag} {mg : Str → Option Value} {base : Heap} {cMatchError cBadDocument : Addr}
/-- one of the things -/
def spOneX (K : PySem.W.Frag) : Sp := fun vs H Q _ => ∃ p n th, vs = [.ref p, th] ∧ FeedAt H p n ∧ n ≤ 1000000000 ∧
  ((∃ a xs, th = .ref a ∧ SqL K H a xs ∧ a ≠ p ∧ 0 < xs.length ∧ xs.length < 100000 ∧ ∀ H' x (g : Nat), But p H H' → FeedAt H' p (n + 1) → xs[g]? = some x → Q x H') ∨
   (∃ a xs, th = .ref a ∧ SqT K H a xs ∧ 0 < xs.length ∧ xs.length < 100000 ∧ ∀ H' x (g : Nat), But p H H' → FeedAt H' p (n + 1) → xs[g]? = some x → Q x H') ∨
   (∃ z : Str, th = .str z ∧ 0 < z.length ∧ z.length < 100000 ∧ ∀ H' c (g : Nat), But p H H' → FeedAt H' p (n + 1) → z.cps.toList[g]? = some c → Q (.str ⟨#[c]⟩) H'))
def spOne (K : PySem.W.Frag) : Sp := fun vs H Q _ => ∃ p n a xs, vs = [.ref p, .ref a] ∧ FeedAt H p n ∧ n ≤ 1000000000 ∧ SqL K H a xs ∧ a ≠ p ∧ 0 < xs.length ∧ xs.length < 100000 ∧
  ∀ H' x (g : Nat), But p H H' → FeedAt H' p (n + 1) → xs[g]? = some x → Q x H'
def spOneT (K : PySem.W.Frag) : Sp := fun vs H Q _ => ∃ p n a xs, vs = [.ref p, .ref a] ∧ FeedAt H p n ∧ n ≤ 1000000000 ∧ SqT K H a xs ∧ 0 < xs.length ∧ xs.length < 100000 ∧
  ∀ H' x (g : Nat), But p H H' → FeedAt H' p (n + 1) → xs[g]? = some x → Q x H'
def spOneS : Sp := fun vs H Q _ => ∃ p n, ∃ z : Str, vs = [.ref p, .str z] ∧ FeedAt H p n ∧ n ≤ 1000000000 ∧ 0 < z.length ∧ z.length < 100000 ∧
  ∀ H' c (g : Nat), But p H H' → FeedAt H' p (n + 1) → z.cps.toList[g]? = some c → Q (.str ⟨#[c]⟩) H'
theorem ok__law_oneX (T : Top K mg cMatchError cBadDocument) : Cl P w K mg base 2 "_law_one" ["feed", "things"] (spOneX K) := by
  have c__law_draw := ok__law_draw (P := P) (w := w) (base := base) T
  refine T.d__law_one.ok sc__law_one (fun vs H Q E h => ?_) (fun f cdv A outer s H vs Q E hr h => ?_)
  · obtain ⟨p, n, th, rfl, _⟩ := h
    rfl
  · refine ⟨_, (pss_one (ps_ret (pe_ix ix_seq (pv 1) (pcN c__law_draw hr (by decide) (pa_cons (pv 0) (pa_cons (pe_callB call_len (by rfl) T.n_len (by decide +kernel) (pa_cons (pv 1) pa_nil)) pa_nil))) (fun _ _ => rfl)))), ?_⟩
    obtain ⟨p, n, th, rfl, F, hn, h⟩ := h
    rcases h with ⟨a, xs, rfl, hS, ne, l0, l1, q⟩ | ⟨a, xs, rfl, hS, l0, l1, q⟩ | ⟨z, rfl, l0, l1, q⟩
    · refine ⟨_, rfl, _, rfl, _, rfl, _, xs.length, rfl, .inl ⟨_, hS, rfl⟩, p, n, xs.length, rfl, F, hn, by omega, by omega, fun H' g b F' g0 g1 => ?_⟩
      obtain ⟨j, rfl⟩ : ∃ j : Nat, g = j := ⟨g.toNat, by omega⟩
      have hj : j < xs.length := by omega
      exact .inl ⟨a, xs, _, _, rfl, rfl, b.seqL ne hS, atI_nat (j := j) (List.getElem?_eq_getElem hj), q _ _ j b F' (List.getElem?_eq_getElem hj)⟩
    · refine ⟨_, rfl, _, rfl, _, rfl, _, xs.length, rfl, .inr ⟨_, hS, rfl⟩, p, n, xs.length, rfl, F, hn, by omega, by omega, fun H' g b F' g0 g1 => ?_⟩
      obtain ⟨j, rfl⟩ : ∃ j : Nat, g = j := ⟨g.toNat, by omega⟩
      have hj : j < xs.length := by omega
      obtain ⟨ys, hy⟩ := F.lst
      exact .inr (.inl ⟨a, xs, _, _, rfl, rfl, b.seqT hy hS, atI_nat (j := j) (List.getElem?_eq_getElem hj), q _ _ j b F' (List.getElem?_eq_getElem hj)⟩)
    · refine ⟨_, rfl, _, rfl, _, rfl, _, z.length, rfl, ⟨Nat.le_trans (Nat.le_of_lt l1) (by decide), rfl⟩, p, n, z.length, rfl, F, hn, by omega, by omega, fun H' g b F' g0 g1 => ?_⟩
      obtain ⟨j, rfl⟩ : ∃ j : Nat, g = j := ⟨g.toNat, by omega⟩
      have hj : j < z.cps.toList.length := by
        have : z.length = z.cps.toList.length := by simp [Str.length]
        omega
      exact .inr (.inr ⟨z, _, _, rfl, rfl, Nat.le_trans (Nat.le_of_lt l1) (by decide), atI_nat (j := j) (List.getElem?_eq_getElem hj), q _ _ j b F' (List.getElem?_eq_getElem hj)⟩)
theorem ok__law_one (T : Top K mg cMatchError cBadDocument) : Cl P w K mg base 2 "_law_one" ["feed", "things"] (spOne K) := (ok__law_oneX T).imp fun vs H Q E h => by
  obtain ⟨p, n, a, xs, h1, h2, h3, h4⟩ := h
  exact ⟨p, n, _, h1, h2, h3, .inl ⟨a, xs, rfl, h4⟩⟩
theorem ok__law_oneT (T : Top K mg cMatchError cBadDocument) : Cl P w K mg base 2 "_law_one" ["feed", "things"] (spOneT K) := (ok__law_oneX T).imp fun vs H Q E h => by
  obtain ⟨p, n, a, xs, h1, h2, h3, h4⟩ := h
  exact ⟨p, n, _, h1, h2, h3, .inr (.inl ⟨a, xs, rfl, h4⟩)⟩
theorem ok__law_oneS (T : Top K mg cMatchError cBadDocument) : Cl P w K mg base 2 "_law_one" ["feed", "things"] spOneS := (ok__law_oneX T).imp fun vs H Q E h => by
  obtain ⟨p, n, z, h1, h2, h3, h4⟩ := h
  exact ⟨p, n, _, h1, h2, h3, .inr (.inr ⟨z, rfl, h4⟩)⟩
end

section
variable {P : Program} {w : World} {K : PySem.W.Frag} {mg : Str → Option Value} {base : Heap} {cMatchError cBadDocument : Addr}
/-- the marks that a document is drawn from -/
def MkText (z : Str) : Prop := 0 < z.length ∧ z.length < 100000 ∧ ∀ c ∈ z.cps.toList, isMk c
theorem mk_text {z : Str} (h1 : decide (0 < z.length) = true) (h2 : decide (z.length < 100000) = true) (h3 : z.cps.toList.all (fun c => decide (97 ≤ c) && decide (c ≤ 104)) = true) : MkText z := by
  refine ⟨of_decide_eq_true h1, of_decide_eq_true h2, fun c hc => ?_⟩
  have := List.all_eq_true.mp h3 c hc
  simp only [Bool.and_eq_true, decide_eq_true_eq] at this
  exact this
def spLDoc (K : PySem.W.Frag) : Sp := fun vs H Q _ => ∃ p, ∃ n m : Nat, vs = [.ref p, .int m] ∧ FeedAt H p n ∧ n ≤ 100000 ∧ m ≤ 1000 ∧
  ∀ H' v d, But p H H' → FeedAt H' p (n + 3 + 3 * m) → DocAt K H' v d → IsDoc d → d.length ≤ m → Q v H'
theorem ok__law_document (T : Top K mg cMatchError cBadDocument) : Cl P w K mg base 3 "_law_document" ["feed", "most"] (spLDoc K) := by
  have c__law_draw := ok__law_draw (P := P) (w := w) (base := base) T
  have c__law_one := ok__law_one (P := P) (w := w) (base := base) T
  have c__law_oneS := ok__law_oneS (P := P) (w := w) (base := base) T
  refine T.d__law_document.ok sc__law_document (fun vs H Q E h => ?_) (fun f cdv A outer s H vs Q E hr h => ?_)
  · obtain ⟨_, _, _, rfl, _⟩ := h
    rfl
  · refine ⟨_, (pss_cons (ps_par3 (i := 2) (j := 3) (l := 4) (by rfl) sc__law_document.nd rfl rfl rfl (by decide) (by decide) (by decide) rfl rfl rfl (pa_cons (pcN c__law_one hr (by decide) (pa_cons (pv 0) (pa_cons (pe_lst (pa_cons pe_str (pa_cons pe_str (pa_cons pe_str (pa_cons pe_str (pa_cons pe_str pa_nil)))))) pa_nil))) (pa_cons (pcN c__law_draw hr (by decide) (pa_cons (pv 0) (pa_cons (pe_op op_add (pv 1) pe_int) pa_nil))) (pa_cons (pcN c__law_draw hr (by decide) (pa_cons (pv 0) (pa_cons pe_int pa_nil))) pa_nil))) (by rfl))
      (pss_cons (ps_par (i := 5) (j := 6) (by rfl) sc__law_document.nd rfl rfl (by decide) rfl rfl (pa_cons (pe_lst pa_nil) (pa_cons (pe_un un_neg pe_int) pa_nil)) (by rfl))
      (pss_cons (ps_for (passes_of rfl) rfl (pi_range1 (by rfl) T.n_range (pa_cons (pv 3) pa_nil)) (pg_name (i := 7) sc__law_document.nd rfl (.inl rfl)) (C8.pss_cut (ps_if (pt_cmpR op_eq (pv 4) pe_int (nomark _)) (pss_one (ps_set (i := 6) sc__law_document.nd rfl (.inl rfl) (pe_ifExp (pt_cmpR op_eq (pv 7) pe_int (nomark _)) pe_int pe_int))) (pss_one (ps_if (pt_cmpR op_eq (pv 4) pe_int (nomark _)) (pss_one (ps_set (i := 6) sc__law_document.nd rfl (.inl rfl) (pe_ifExp (pt_cmpR op_gt (pcN c__law_draw hr (by decide) (pa_cons (pv 0) (pa_cons pe_int pa_nil))) pe_int (nomark _)) (pe_op op_add (pv 6) pe_int) (pcN c__law_draw hr (by decide) (pa_cons (pv 0) (pa_cons (pe_op op_add (pv 6) pe_int) pa_nil)))))) (pss_cons (ps_set (i := 8) sc__law_document.nd rfl (.inl rfl) (pe_lst (pa_cons (pe_op op_add (pv 6) pe_int) (pa_cons (pe_op op_add (pv 6) pe_int) (pa_cons (pv 6) (pa_cons (pv 6) (pa_cons (pe_op op_sub (pv 6) pe_int) (pa_cons pe_int (pa_cons (pcN c__law_draw hr (by decide) (pa_cons (pv 0) (pa_cons (pe_op op_add (pv 6) pe_int) pa_nil))) pa_nil)))))))))
      (pss_one (ps_set (i := 6) sc__law_document.nd rfl (.inl rfl) (pe_callB (call_max2 rfl) (by rfl) T.n_max (by decide +kernel) (pa_cons pe_int (pa_cons (pe_callB (call_min2 rfl) (by rfl) T.n_min (by decide +kernel) (pa_cons (pe_op op_add (pv 6) pe_int) (pa_cons (pcN c__law_one hr (by decide) (pa_cons (pv 0) (pa_cons (pv 8) pa_nil))) pa_nil))) pa_nil)))))))))
      (pss_one (ps_expr (pe_bm PySem.F.plainAttrs_list PySem.F.slot_list_append PySem.F.type_list_append mt_append (pv 5) (pa_cons (pe_tup (pa_cons (pcN c__law_oneS hr (by decide) (pa_cons (pv 0) (pa_cons (pv 2) pa_nil))) (pa_cons (pv 6) pa_nil))) pa_nil))))))
      (pss_one (ps_ret (pe_callTy call_tuple_of (by rfl) T.n_tuple (by decide +kernel) (pa_cons (pv 5) pa_nil))))))), ?_⟩
    obtain ⟨p, n, m, rfl, F, hn, hm, q⟩ := h
    refine ⟨_, rfl, by show 5 ≤ sizeLine; decide, fun a na => ?_⟩
    refine ⟨p, n, a, _, rfl, F.new na, by omega, sqL_of upd_same, F.ne na, by show 0 < 5; decide, by show 5 < 100000; decide, fun H1 x g b1 F1 hx => ?_⟩
    obtain ⟨z, rfl, hz⟩ : ∃ z, x = .str z ∧ MkText z := by
      match g, hx with
      | 0, hx => cases hx; exact ⟨_, rfl, mk_text (by decide) (by decide) (by decide)⟩
      | 1, hx => cases hx; exact ⟨_, rfl, mk_text (by decide) (by decide) (by decide)⟩
      | 2, hx => cases hx; exact ⟨_, rfl, mk_text (by decide) (by decide) (by decide)⟩
      | 3, hx => cases hx; exact ⟨_, rfl, mk_text (by decide) (by decide) (by decide)⟩
      | 4, hx => cases hx; exact ⟨_, rfl, mk_text (by decide) (by decide) (by decide)⟩
      | n + 5, hx => cases hx
    have B1 : But p H H1 := (But.of (same_new na)).trans b1
    have p100 : (100000 : Int) < 10 ^ 100 := by decide
    refine ⟨_, rfl, _, rfl, _, _, rfl, rfl, p, n + 1, (m : Int) + 1, rfl, F1, by omega, by omega, by omega, fun H2 many b2 F2 m0 m1 => ?_⟩
    refine ⟨_, rfl, p, n + 1 + 1, 6, rfl, F2, by omega, by decide, by decide, fun H3 way b3 F3 w0 w1 => ⟨_, _, _, rfl, ?_⟩⟩
    refine ⟨Nat.zero_le _, fun gt ng => ⟨_, rfl, _, _, rfl, ?_⟩⟩
    have B3 : But p H (upd H3 gt (.lst [])) := ((B1.trans b2).trans b3).trans (But.of (same_new ng))
    have ngp : gt ≠ p := F3.ne ng
    obtain ⟨mn, rfl⟩ : ∃ mn : Nat, many = mn := ⟨many.toNat, by omega⟩
    have nH : H gt = none := by
      cases e : H gt with
      | none => rfl
      | some o =>
        have := ((B1.trans b2).trans b3) gt o ngp e
        rw [ng] at this
        cases this
    refine ⟨_, rfl, (mn : Int), rfl, by omega, by omega, for_range (lo := 0) (n := (mn : Int).toNat)
      (fun i σ H' => ∃ x7 x8 xs d, σ = [some (.ref p), some (.int m), some (.str z), some (.int mn), some (.int way), some (.ref gt), some (.int ((mostOf d : Int) - 1)), x7, x8] ∧ But p H H' ∧ FeedAt H' p (n + 3 + 3 * i) ∧ H' gt = some (.lst xs) ∧ Entries K H' xs d ∧ IsDoc d ∧ d.length = i)
      ⟨none, none, [], [], rfl, B3, F3.new ng, upd_same, Entries.nil, IsDoc.nil, rfl⟩ ?_ ?_⟩
    · rintro i σ H4 hi ⟨x7, x8, xs, d, rfl, b4, F4, hg4, E4, D4, l4⟩
      have hi2 : i < 1001 := by omega
      refine ⟨fun σ' H' => ∃ x8, ∃ k : Nat, k ≤ mostOf d ∧ σ' = [some (.ref p), some (.int m), some (.str z), some (.int mn), some (.int way), some (.ref gt), some (.int k), some (.int (0 + (i : Int))), x8] ∧ But p H H' ∧ FeedAt H' p (n + 3 + 3 * i + 2) ∧ H' gt = some (.lst xs) ∧ Keep H4 H', ?_, ?_⟩
      · have md : (mostOf d : Int) ≤ 1001 ∨ True := .inr trivial
        have mo : mostOf d ≤ i + 1 ∨ True := .inr trivial
        refine ⟨_, rfl, rfl, _, rfl, ite2 (fun e => ?_) (fun e => ?_)⟩
        · refine ⟨_, rfl, rfl, _, rfl, ite2 (fun e2 => ?_) (fun e2 => ?_)⟩
          · exact ⟨x8, 0, Nat.zero_le _, rfl, b4, F4.mono (by omega), hg4, Keep.refl _⟩
          · refine ⟨x8, 1, ?_, rfl, b4, F4.mono (by omega), hg4, Keep.refl _⟩
            have i0 : i ≠ 0 := fun z0 => e2 (decide_eq_true (by rw [z0]; rfl))
            rw [most_dep (by omega)]
            omega
        · refine ⟨_, rfl, rfl, _, rfl, ite2 (fun e1 => ?_) (fun e1 => ?_)⟩
          · refine ⟨_, rfl, p, n + 3 + 3 * i, 9, rfl, F4, by omega, by decide, by decide, fun H5 g5 b5 F5 g50 g51 => ?_⟩
            have hg5 := b5 gt _ ngp hg4
            refine ⟨_, _, rfl, rfl, _, rfl, ite2 (fun e2 => ?_) (fun e2 => ?_)⟩
            · refine ⟨_, rfl, _, _, rfl, rfl, x8, mostOf d, Nat.le_refl _, ?_, b4.trans b5, F5.mono (by omega), hg5, F4.keeps b5 F5⟩
              exact congrArg (fun y => [some (V.ref p), some (V.int m), some (V.str z), some (V.int mn), some (V.int way), some (V.ref gt), some (V.int y), some (V.int (0 + (i : Int))), x8]) (by omega : (mostOf d : Int) - 1 + 1 = (mostOf d : Int))
            · have big := D4.most_le
              refine ⟨_, rfl, _, rfl, _, _, rfl, rfl, p, n + 3 + 3 * i + 1, (mostOf d : Int) - 1 + 2, rfl, F5, by omega, by omega, by omega, fun H6 g6 b6 F6 g60 g61 => ?_⟩
              refine ⟨x8, g6.toNat, by omega, ?_, (b4.trans b5).trans b6, F6, b6 gt _ ngp hg5, (F4.keeps b5 F5).trans (F5.keeps b6 F6)⟩
              exact congrArg (fun y => [some (V.ref p), some (V.int m), some (V.str z), some (V.int mn), some (V.int way), some (V.ref gt), some (V.int y), some (V.int (0 + (i : Int))), x8]) (by omega : g6 = (g6.toNat : Int))
          · have big := D4.most_le
            refine ⟨_, rfl, _, _, rfl, rfl, _, rfl, _, _, rfl, rfl, _, rfl, _, rfl, _, rfl, _, _, rfl, rfl, _, rfl, _, rfl, _, _, rfl, rfl, p, n + 3 + 3 * i, (mostOf d : Int) - 1 + 2, rfl, F4, by omega, by omega, by omega, fun H5 g5 b5 F5 g50 g51 => ?_⟩
            refine ⟨by show 7 ≤ sizeLine; decide, fun a6 n6 => ?_⟩
            have hg5 := b5 gt _ ngp hg4
            have n6g : gt ≠ a6 := fun z0 => by rw [← z0, hg5] at n6; cases n6
            refine ⟨_, rfl, _, _, rfl, rfl, _, rfl, _, rfl, p, n + 3 + 3 * i + 1, a6, _, rfl, F5.new n6, by omega, sqL_of upd_same, F5.ne n6, by show 0 < 7; decide, by show 7 < 100000; decide, fun H6 x6 g6 b6 F6 hx6 => ?_⟩
            obtain ⟨j, rfl⟩ : ∃ j : Int, x6 = .int j := by
              match g6, hx6 with
              | 0, hx => cases hx; exact ⟨_, rfl⟩
              | 1, hx => cases hx; exact ⟨_, rfl⟩
              | 2, hx => cases hx; exact ⟨_, rfl⟩
              | 3, hx => cases hx; exact ⟨_, rfl⟩
              | 4, hx => cases hx; exact ⟨_, rfl⟩
              | 5, hx => cases hx; exact ⟨_, rfl⟩
              | 6, hx => cases hx; exact ⟨_, rfl⟩
              | n + 7, hx => cases hx
            refine ⟨_, _, rfl, _, _, rfl, ?_⟩
            have kk : ∃ k : Nat, k ≤ mostOf d ∧ (if (if j < (mostOf d : Int) - 1 + 1 then j else (mostOf d : Int) - 1 + 1) > 0 then (if j < (mostOf d : Int) - 1 + 1 then j else (mostOf d : Int) - 1 + 1) else 0) = (k : Int) := by
              refine ⟨(if (if j < (mostOf d : Int) - 1 + 1 then j else (mostOf d : Int) - 1 + 1) > 0 then (if j < (mostOf d : Int) - 1 + 1 then j else (mostOf d : Int) - 1 + 1) else 0).toNat, ?_, ?_⟩
              · split <;> split <;> omega
              · split <;> split <;> omega
            obtain ⟨k, hk, ek⟩ := kk
            refine ⟨some (.ref a6), k, hk, ?_, ((b4.trans b5).trans (But.of (same_new n6))).trans b6, F6, b6 gt _ ngp (same_new n6 _ _ hg5), ((F4.keeps b5 F5).trans (Keep.of (same_new n6))).trans ((F5.new n6).keeps b6 F6)⟩
            exact congrArg (fun y => [some (V.ref p), some (V.int m), some (V.str z), some (V.int mn), some (V.int way), some (V.ref gt), some (V.int y), some (V.int (0 + (i : Int))), some (V.ref a6)]) ek
      · rintro σ' H5 ⟨x8, k, hk, rfl, b5, F5, hg5, k45⟩
        refine ⟨_, rfl, .inl ⟨rfl, _, sqL_of hg5⟩, _, rfl, _, rfl, p, n + 3 + 3 * i + 2, z, rfl, F5, by omega, hz.1, hz.2.1, fun H6 c g6 b6 F6 hc => ?_⟩
        refine ⟨_, rfl, by show 2 ≤ sizeLine; decide, fun a6 n6 => ?_⟩
        have hg6 := b6 gt _ ngp hg5
        have n6g : gt ≠ a6 := fun z0 => by rw [← z0, hg6] at n6; cases n6
        have S6 := same_new (o := .tup [.str ⟨#[c]⟩, .int (k : Nat)]) n6
        have lx : xs.length < sizeLine := by
          rw [E4.len, l4]
          exact Nat.lt_of_lt_of_le hi2 (by decide)
        refine ⟨gt, xs, _, rfl, rfl, S6 _ _ hg6, lx, ?_⟩
        have hk2 : mostOf (d ++ [(c, k)]) = k + 1 := most_snoc
        have K56 : Keep H5 H6 := F5.keeps b6 F6
        have KU : Keep (upd H6 a6 (.tup [.str ⟨#[c]⟩, .int (k : Nat)])) (upd (upd H6 a6 (.tup [.str ⟨#[c]⟩, .int (k : Nat)])) gt (.lst (xs ++ [.ref a6]))) := Keep.upd (S6 _ _ hg6)
        refine ⟨some (.int (0 + (i : Int))), x8, xs ++ [.ref a6], d ++ [(c, k)], ?_, ?_, ?_, upd_same, ?_, D4.snoc (hz.2.2 c (List.mem_of_getElem? hc)) hk, by simp [l4]⟩
        · exact congrArg (fun y => [some (V.ref p), some (V.int m), some (V.str z), some (V.int mn), some (V.int way), some (V.ref gt), some (V.int y), some (V.int (0 + (i : Int))), x8]) (by rw [hk2]; omega : (k : Int) = (mostOf (d ++ [(c, k)]) : Int) - 1)
        · intro b o nb hb
          have nbg : b ≠ gt := fun z0 => by rw [z0, nH] at hb; cases hb
          rw [upd_ne nbg]
          exact S6 _ _ (b6 b o nb (b5 b o nb hb))
        · refine ((F6.new (o := .tup [.str ⟨#[c]⟩, .int (k : Nat)]) n6).keep fun o ho => ?_).mono (by omega)
          rw [upd_ne ngp.symm]
          exact ho
        · exact ((E4.keep (k45.trans (K56.trans (Keep.of S6)))).keep KU).snoc ⟨a6, rfl, KU.seqT (sqT_of upd_same)⟩
    · rintro σ H4 ⟨x7, x8, xs, d, rfl, b4, F4, hg4, E4, D4, l4⟩
      refine ⟨_, rfl, gt, xs, rfl, .inl ⟨sqL_of hg4, fun l nl => ?_⟩⟩
      have S := same_new (o := .tup xs) nl
      exact q _ _ d (b4.trans (But.of S)) ((F4.new nl).mono (by omega)) ⟨l, xs, rfl, sqT_of upd_same, E4.keep (Keep.of S)⟩ D4 (by omega)
end

section
variable {P : Program} {w : World} {K : PySem.W.Frag} {mg : Str → Option Value} {base : Heap} {cMatchError cBadDocument : Addr}
def spLDrawn (K : PySem.W.Frag) : Sp := fun vs H Q _ => ∃ p a n, ∃ m : Nat, ∃ ns : List Int, vs = [.ref p, .ref a, .int m] ∧ FeedAt H p n ∧ n ≤ 1000 ∧ (∀ H', But p H H' → SqL K H' a (ns.map V.int)) ∧ ns.length ≤ 63 ∧ (∀ z ∈ ns, z.natAbs.log2 ≤ 1048576) ∧ m ≤ 1000 ∧
  ∀ H' v d, But p H H' → FeedAt H' p (n + 1) → DocAt K H' v d → IsDoc d → d.length ≤ 1000 → (d.length ≤ 62 ∨ d.length ≤ m) → Q v H'
theorem ok__law_drawn (T : Top K mg cMatchError cBadDocument) : Cl P w K mg base 4 "_law_drawn" ["feed", "script", "most"] (spLDrawn K) := by
  have c__law_draw := ok__law_draw (P := P) (w := w) (base := base) T
  have c__law_feed := ok__law_feed (P := P) (w := w) (base := base) T
  have c__law_grown := ok__law_grown (P := P) (w := w) (base := base) T
  have c__law_document := ok__law_document (P := P) (w := w) (base := base) T
  refine T.d__law_drawn.ok sc__law_drawn (fun vs H Q E h => ?_) (fun f cdv A outer s H vs Q E hr h => ?_)
  · obtain ⟨_, _, _, _, _, rfl, _⟩ := h
    rfl
  · refine ⟨_, (pss_cons (ps_if (pt_cmpR op_eq (pcN c__law_draw hr (by decide) (pa_cons (pv 0) (pa_cons pe_int pa_nil))) pe_int (nomark _)) (pss_one (ps_ret (pcN c__law_grown hr (by decide) (pa_cons (pe_slice sl_list (pv 1) (po_some pe_int) (po_some pe_int)) pa_nil)))) pss_nil)
      (pss_one (ps_ret (pcN c__law_document hr (by decide) (pa_cons (pcN c__law_feed hr (by decide) (pa_cons (pv 1) (pa_cons pe_int pa_nil))) (pa_cons (pv 2) pa_nil)))))), ?_⟩
    obtain ⟨p, a, n, m, ns, rfl, F, hn, ne, hl, hb, hm, q⟩ := h
    refine ⟨_, rfl, p, n, 2, rfl, F, by omega, by decide, by decide, fun H1 g b1 F1 g0 g1 => ?_⟩
    have hS1 := ne _ b1
    refine ⟨rfl, _, rfl, ite2 (fun e => ?_) (fun e => ?_)⟩
    · refine ⟨_, rfl, 1, rfl, 63, rfl, a, ns.map V.int, rfl, hS1, fun l nl => ?_⟩
      have S := same_new (o := .lst (cutV (ns.map V.int) (some 1) (some 63))) nl
      refine ⟨l, (ns.take 63).drop 1, rfl, ?_, ?_, fun H' v d s' D hd h62 => ?_⟩
      · rw [List.map_drop, List.map_take]
        rw [show cutV (ns.map V.int) (some 1) (some 63) = ((ns.map V.int).take 63).drop 1 from cut_mid (ns.map V.int) 1 63]
        exact sqL_of upd_same
      · rw [List.length_drop, List.length_take]
        omega
      · rw [List.length_drop, List.length_take] at h62
        exact q _ _ d ((b1.trans (But.of S)).trans (But.of s')) ((F1.new nl).same s') D hd (by omega) (.inl (by omega))
    · refine ⟨_, rfl, a, ns, 1, rfl, hS1, hb, by decide, by decide, fun H2 p2 s2 np2 F2 => ?_⟩
      refine ⟨_, rfl, p2, 0, m, rfl, F2, by decide, hm, fun H3 v d b3 F3 D hd hlen => ?_⟩
      have npp : p ≠ p2 := fun z => by
        obtain ⟨ys, hy⟩ := F1.lst
        rw [z, np2] at hy
        cases hy
      have B : But p H1 H3 := fun c o nc hc => b3 c o (fun z => by rw [z, np2] at hc; cases hc) (s2 _ _ hc)
      exact q _ _ d (b1.trans B) (F1.keep fun o ho => b3 p o npp (s2 _ _ ho)) D hd (by omega) (.inr hlen)
end

section
variable {P : Program} {w : World} {K : PySem.W.Frag} {mg : Str → Option Value} {base : Heap} {cMatchError cBadDocument : Addr}
structure LPar (a gt : Addr) (d : Doc) (H : Hp) (i : Nat) (σ : L2.St) (H' : Hp) : Prop where
  ex : ∃ o x3 x4 x5 st, σ = [some (.ref a), some (.ref gt), some (.ref o), x3, x4, x5] ∧ Same H H' ∧ H' gt = some (.lst (((List.range i).map (parOf d)).map oV)) ∧ H' o = some (.lst (st.map nV)) ∧ o ≠ gt ∧ H o = none ∧ Stack d i st ∧ (i < d.length → dep d i ≤ st.length) ∧ st.length ≤ i
theorem ok__law_parents (T : Top K mg cMatchError cBadDocument) : Cl P w K mg base 1 "_law_parents" ["document"] (spParentsOf K) := by
  refine T.d__law_parents.ok sc__law_parents (fun vs H Q E h => ?_) (fun f cdv A outer s H vs Q E hr h => ?_)
  · obtain ⟨v, d, rfl, _⟩ := h
    rfl
  · refine ⟨_, (pss_cons (ps_par (i := 1) (j := 2) (by rfl) sc__law_parents.nd rfl rfl (by decide) rfl rfl (pa_cons (pe_lst pa_nil) (pa_cons (pe_lst pa_nil) pa_nil)) (by rfl))
      (pss_cons (ps_for (passes_of rfl) rfl (pi_enumT (by rfl) T.n_enumerate (pa_cons (pv 0) pa_nil)) (pg_tup rfl (pgs_cons (pg_name (i := 3) sc__law_parents.nd rfl (.inl rfl)) (pgs_cons (pg_tup rfl (pgs_cons (pg_name (i := 4) sc__law_parents.nd rfl (.inl rfl)) (pgs_cons (pg_name (i := 5) sc__law_parents.nd rfl (.inl rfl)) pgs_nil))) pgs_nil))) (pss_cons (ps_set (i := 2) sc__law_parents.nd rfl (.inl rfl) (pe_slice sl_list (pv 2) po_none (po_some (pv 5))))
      (pss_cons (ps_expr (pe_bm PySem.F.plainAttrs_list PySem.F.slot_list_append PySem.F.type_list_append mt_append (pv 1) (pa_cons (pe_ifExp (pt_cmpR (op_neD hr.units) (pv 2) (pe_lst pa_nil) (nomark _)) (pe_ix ix_list (pv 2) (pe_un un_neg pe_int) (fun _ _ => rfl)) pe_non) pa_nil)))
      (pss_one (ps_expr (pe_bm PySem.F.plainAttrs_list PySem.F.slot_list_append PySem.F.type_list_append mt_append (pv 2) (pa_cons (pv 3) pa_nil)))))))
      (pss_one (ps_ret (pv 1))))), ?_⟩
    obtain ⟨v, d, rfl, D, hd, hl, q⟩ := h
    obtain ⟨a, xs, rfl, hS, E0⟩ := D.ex
    refine ⟨Nat.zero_le _, fun gt ng => ⟨Nat.zero_le _, fun ot no => ⟨_, _, rfl, ?_⟩⟩⟩
    have S2 := (same_new (o := .lst []) ng).trans (same_new (o := .lst []) no)
    have ngo : ot ≠ gt := fun z => by rw [z, upd_same] at no; cases no
    have no0 : H ot = none := (same_new ng).free no
    have big : ∀ i, i < 20002 → i < sizeLine := fun i h => Nat.lt_of_lt_of_le h (by decide)
    refine ⟨_, rfl, a, xs, rfl, (Keep.of S2).seqT hS, for_G (LPar a gt d H)
      ⟨ot, none, none, none, [], rfl, S2, same_new no _ _ upd_same, upd_same, ngo, no0, Stack.nil, fun _ => by rw [hd.first]; exact Nat.zero_le _, Nat.le_refl _⟩ (fun i σ H' _ I => by obtain ⟨_, _, _, _, _, _, sm, _⟩ := I.ex; exact (Keep.of sm).seqT hS) ?_ ?_⟩
    · intro i T0 x σ H' hi hx nT I
      obtain ⟨o, x3, x4, x5, st, rfl, sm, hp, ha, nog, noo, St, hdep, hst⟩ := I.ex
      rw [E0.len] at hi
      obtain ⟨b, hb, tb⟩ := E0.get hi
      rw [hb] at hx
      cases hx
      have S1 := same_new (o := .tup [.int (i : Nat), .ref b]) nT
      have sm1 := sm.trans S1
      refine ⟨T0, _, rfl, sqT_of upd_same, rfl, _, _, rfl, _, _, rfl, ⟨b, _, rfl, (Keep.of sm1).seqT tb, rfl, _, _, rfl, _, _, rfl, rfl, rfl, ?_⟩⟩
      have hdi := hdep hi
      refine ⟨_, rfl, _, rfl, dep d i, rfl, o, st.map nV, rfl, sqL_of (S1 _ _ ha), fun o2 n2 => ?_⟩
      rw [show cutV (st.map nV) none (some ((dep d i : Nat) : Int)) = (st.take (dep d i)).map nV by rw [cut_to, List.map_take]]
      have S3 := sm1.trans (same_new (o := .lst ((st.take (dep d i)).map nV)) n2)
      have hp3 := same_new (o := .lst ((st.take (dep d i)).map nV)) n2 _ _ (S1 _ _ hp)
      have ha3 : upd (upd H' T0 (.tup [.int (i : Nat), .ref b])) o2 (.lst ((st.take (dep d i)).map nV)) o2 = some (.lst ((st.take (dep d i)).map nV)) := upd_same
      have nH2 : H o2 = none := sm1.free n2
      have n2g : o2 ≠ gt := fun z => by rw [z, S1 _ _ hp] at n2; cases n2
      generalize upd (upd H' T0 (.tup [.int (i : Nat), .ref b])) o2 (.lst ((st.take (dep d i)).map nV)) = H3 at S3 hp3 ha3
      have lm : (st.take (dep d i)).length = dep d i := by rw [List.length_take]; omega
      have StC := St.cut (dep d i)
      generalize st.take (dep d i) = su at ha3 lm StC
      refine ⟨_, rfl, .inl ⟨rfl, _, sqL_of hp3⟩, ?_⟩
      refine val_goS (oV (parOf d i)) (fun Q' q' => ?_) ?_
      · refine ⟨_, rfl, Nat.zero_le _, fun ln nl => ⟨.list (su.map dN), .list [], .lst (sqL_of (same_new nl _ _ ha3)) (DpAll.map su fun x _ => dp_nV x), .lst (sqL_of upd_same) .nil, shaped_N su, rfl, _, rfl, ?_⟩⟩
        rw [eqv_nil]
        by_cases e : su = []
        · rw [decide_eq_true e]
          refine iteF ?_
          have : parOf d i = none := (hd.top hi).mpr (by rw [← lm, e]; rfl)
          rw [this] at q'
          exact q' _ (same_new nl)
        · rw [decide_eq_false e]
          refine iteT ?_
          have h0 : 0 < su.length := List.length_pos_iff.mpr e
          have hj : su[su.length - 1]? = some (su[su.length - 1]'(by omega)) := List.getElem?_eq_getElem (by omega)
          rw [StC.par lm hj (by omega)] at q'
          refine ⟨_, rfl, 1, rfl, o2, _, -1, _, rfl, rfl, sqL_of (same_new nl _ _ ha3), atI_neg1 (v := nV (su[su.length - 1]'(by omega))) ?_, q' _ (same_new nl)⟩
          rw [List.length_map, List.getElem?_map, hj]
          rfl
      · intro H4 s4
        have lp : (((List.range i).map (parOf d)).map oV).length < sizeLine := by
          rw [List.length_map, List.length_map, List.length_range]
          exact big _ (by omega)
        have lq : (su.map nV).length < sizeLine := by
          rw [List.length_map, lm]
          have := hd.dep_le i hi
          exact big _ (by omega)
        have hp4 := s4 _ _ hp3
        have ha4 := s4 _ _ ha3
        have ha5 : upd H4 gt (.lst ((((List.range i).map (parOf d)).map oV) ++ [oV (parOf d i)])) o2 = some (.lst (su.map nV)) := by
          rw [upd_ne n2g]
          exact ha4
        refine ⟨gt, _, _, rfl, rfl, hp4, lp, _, rfl, .inl ⟨rfl, _, sqL_of ha5⟩, _, rfl, o2, _, _, rfl, rfl, ha5, lq, ?_⟩
        refine ⟨o2, _, _, _, su ++ [i], rfl, ?_, ?_, ?_, n2g, nH2, StC.push lm, ?_, ?_⟩
        · intro b' o' hb'
          have n1 : b' ≠ o2 := fun z => by rw [z, nH2] at hb'; cases hb'
          have n3 : b' ≠ gt := fun z => by rw [z, ng] at hb'; cases hb'
          rw [upd_ne n1, upd_ne n3]
          exact s4 _ _ (S3 b' o' hb')
        · rw [upd_ne n2g.symm, upd_same, parL_step, List.map_append]
          rfl
        · rw [upd_same, List.map_append]
          rfl
        · intro h
          have := hd.step i h
          rw [List.length_append, lm]
          exact this
        · have := hd.dep_le i hi
          rw [List.length_append, lm]
          show dep d i + 1 ≤ i + 1
          omega
    · intro σ H' I
      obtain ⟨o, x3, x4, x5, st, rfl, sm, hp, _⟩ := I.ex
      refine ⟨_, rfl, q H' gt sm ng ?_⟩
      rw [E0.len] at hp
      exact hp
end

section
variable {P : Program} {w : World} {K : PySem.W.Frag} {mg : Str → Option Value} {base : Heap} {cMatchError cBadDocument : Addr}
def spLDepth (K : PySem.W.Frag) : Sp := fun vs H Q _ => ∃ a d, vs = [.ref a] ∧ SqL K H a ((parL d).map oV) ∧ IsDoc d ∧ d.length ≤ 20000 ∧ ∀ m, IsDeep d m → Q (nV m) H
theorem oV_none {p : Option Nat} : oV p = .non ↔ p = none := by
  cases p with
  | none => exact ⟨fun _ => rfl, fun _ => rfl⟩
  | some n => exact ⟨(fun h => by cases h), (fun h => by cases h)⟩
theorem ok__law_depth (T : Top K mg cMatchError cBadDocument) : Cl P w K mg base 1 "_law_depth" ["above"] (spLDepth K) := by
  refine T.d__law_depth.ok sc__law_depth (fun vs H Q E h => ?_) (fun f cdv A outer s H vs Q E hr h => ?_)
  · obtain ⟨v, d, rfl, _⟩ := h
    rfl
  · refine ⟨_, (pss_cons (ps_set (i := 1) sc__law_depth.nd rfl (.inl rfl) pe_int)
      (pss_cons (ps_for (passes_of rfl) rfl (pi_range1 (by rfl) T.n_range (pa_cons (pe_callB call_len_seq (by rfl) T.n_len (by decide +kernel) (pa_cons (pv 0) pa_nil)) pa_nil)) (pg_name (i := 2) sc__law_depth.nd rfl (.inl rfl)) (pss_cons (ps_par (i := 3) (j := 4) (by rfl) sc__law_depth.nd rfl rfl (by decide) rfl rfl (pa_cons pe_int (pa_cons (pe_ix ix_list (pv 0) (pv 2) (fun _ _ => rfl)) pa_nil)) (by rfl))
      (pss_cons (ps_for (passes_of rfl) rfl (pi_range1 (by rfl) T.n_range (pa_cons (pe_callB call_len_seq (by rfl) T.n_len (by decide +kernel) (pa_cons (pv 0) pa_nil)) pa_nil)) (pg_name (i := 5) sc__law_depth.nd rfl (.inl rfl)) (pss_cons (ps_if (pt_cmpR op_isN (pv 4) pe_non (nomark _)) (pss_one ps_break) pss_nil)
      (pss_one (ps_par (i := 3) (j := 4) (by rfl) sc__law_depth.nd rfl rfl (by decide) rfl rfl (pa_cons (pe_op op_add (pv 3) pe_int) (pa_cons (pe_ix ix_list (pv 0) (pv 4) (fun _ _ => rfl)) pa_nil)) (by rfl)))))
      (pss_one (ps_set (i := 1) sc__law_depth.nd rfl (.inl rfl) (pe_callB (call_max2 rfl) (by rfl) T.n_max (by decide +kernel) (pa_cons (pv 1) (pa_cons (pv 3) pa_nil))))))))
      (pss_one (ps_ret (pv 1))))), ?_⟩
    obtain ⟨a, d, rfl, hS, hd, hl, q⟩ := h
    have pl : ((parL d).map oV).length = d.length := by simp [parL]
    have pt : (((parL d).map oV).length : Int).toNat = d.length := by rw [pl]; exact Int.toNat_natCast _
    have get : ∀ i, i < d.length → ((parL d).map oV)[i]? = some (oV (parOf d i)) := fun i hi => by
      rw [List.getElem?_map, parL, List.getElem?_map, List.getElem?_range hi]
      rfl
    refine ⟨_, rfl, a, _, rfl, .inl hS, _, rfl, by rw [pl]; omega, by rw [pl]; omega, for_range (lo := 0) (n := (((parL d).map oV).length : Int).toNat) (fun i σ H' => H' = H ∧ ∃ m : Nat, (∃ x2 x3 x4 x5, σ = [some (.ref a), some (.int m), x2, x3, x4, x5]) ∧ (i = 0 → m = 0) ∧ (∀ j, j < i → dep d j + 1 ≤ m) ∧ (0 < i → ∃ j, j < i ∧ m = dep d j + 1)) ⟨rfl, 0, ⟨none, none, none, none, rfl⟩, fun _ => rfl, fun j h => by omega, fun h => by omega⟩ ?_ ?_⟩
    · rintro i σ H' hi ⟨rfl, m, ⟨x2, x3, x4, x5, rfl⟩, m0, m1, m2⟩
      rw [pt] at hi
      have ei : (0 : Int) + (i : Int) = (i : Int) := by omega
      have ai : atI ((parL d).map oV) ((0 : Int) + (i : Int)) = some (oV (parOf d i)) := by
        rw [ei]
        exact atI_nat (get i hi)
      refine ⟨_, rfl, _, rfl, a, _, _, _, rfl, rfl, hS, ai, _, _, rfl, ?_⟩
      refine ⟨_, rfl, a, _, rfl, .inl hS, _, rfl, by rw [pl]; omega, by rw [pl]; omega, for_range (lo := 0) (n := (((parL d).map oV).length : Int).toNat) (fun t σ H'' => H'' = H' ∧ ∃ cur, cur < d.length ∧ dep d cur + t = dep d i ∧ ∃ x5, σ = [some (.ref a), some (.int m), some (.int (0 + (i : Int))), some (.int ((t : Int) + 1)), some (oV (parOf d cur)), x5]) ⟨rfl, i, hi, rfl, x5, rfl⟩ ?_ ?_⟩
      · rintro t σ H'' ht ⟨rfl, cur, hc, hdc, x5, rfl⟩
        refine ⟨_, rfl, rfl, _, rfl, ite2 (fun e => ?_) (fun e => ?_)⟩
        · have e1 := oV_none.mp (of_decide_eq_true e)
          have e2 := (hd.top hc).mp e1
          refine ⟨_, rfl, _, rfl, _, _, rfl, rfl, max m (t + 1), ⟨some (.int (0 + (i : Int))), some (.int ((t : Int) + 1)), some (oV (parOf d cur)), some (.int (0 + (t : Int))), ?_⟩, fun z => by omega, fun j hj => ?_, fun _ => ?_⟩
          · refine congrArg (fun y => [some (V.ref a), some (V.int y), some (V.int (0 + (i : Int))), some (V.int ((t : Int) + 1)), some (oV (parOf d cur)), some (V.int (0 + (t : Int)))]) ?_
            show (if ((t : Int) + 1) > (m : Int) then ((t : Int) + 1) else (m : Int)) = ((max m (t + 1) : Nat) : Int)
            split <;> omega
          · rcases Nat.lt_or_ge j i with l | l
            · have := m1 j l
              omega
            · rw [show j = i by omega]
              omega
          · rcases Nat.lt_or_ge m (t + 1) with l | l
            · exact ⟨i, Nat.lt_succ_self _, by omega⟩
            · have i0 : 0 < i := by
                rcases Nat.eq_zero_or_pos i with z | z
                · have := m0 z
                  omega
                · exact z
              obtain ⟨j, hj, ej⟩ := m2 i0
              exact ⟨j, by omega, by omega⟩
        · have e1 : ¬ parOf d cur = none := fun z => e (decide_eq_true (by rw [z]; rfl))
          cases en : parOf d cur with
          | none => exact (e1 en).elim
          | some n =>
            obtain ⟨n1, n2, n3⟩ := lastAt_some.mp en
            have n2 := of_decide_eq_true n2
            refine ⟨_, rfl, _, _, rfl, rfl, _, rfl, _, rfl, a, _, _, _, rfl, rfl, hS, atI_nat (get n (by omega)), _, _, rfl, ?_⟩
            exact ⟨rfl, n, by omega, by omega, _, rfl⟩
      · rintro σ H'' ⟨rfl, cur, hc, hdc, x5, rfl⟩
        rw [pt] at hdc
        have := hd.dep_le i hi
        omega
    · rintro σ H' ⟨rfl, m, ⟨x2, x3, x4, x5, rfl⟩, m0, m1, m2⟩
      rw [pt] at m0 m1 m2
      exact ⟨_, rfl, q m ⟨m0, m1, m2⟩⟩
end

section
variable {P : Program} {w : World} {K : PySem.W.Frag} {mg : Str → Option Value} {base : Heap} {cMatchError cBadDocument : Addr}
def spLBreadth (K : PySem.W.Frag) : Sp := fun vs H Q _ => ∃ a d, vs = [.ref a] ∧ SqL K H a ((parL d).map oV) ∧ IsDoc d ∧ d.length ≤ 20000 ∧ ∀ H' m, Same H H' → IsBroad d m → Q (nV m) H'
theorem ok__law_breadth (T : Top K mg cMatchError cBadDocument) : Cl P w K mg base 1 "_law_breadth" ["above"] (spLBreadth K) := by
  refine T.d__law_breadth.ok sc__law_breadth (fun vs H Q E h => ?_) (fun f cdv A outer s H vs Q E hr h => ?_)
  · obtain ⟨v, d, rfl, _⟩ := h
    rfl
  · refine ⟨_, (pss_cons (ps_set (i := 1) sc__law_breadth.nd rfl (.inl rfl) pe_int)
      (pss_cons (ps_for (passes_of rfl) rfl (pi_list (pv 0)) (pg_name (i := 2) sc__law_breadth.nd rfl (.inr rfl)) (pss_one (ps_set (i := 1) sc__law_breadth.nd rfl (.inl rfl) (pe_callB (call_max2 rfl) (by rfl) T.n_max (by decide +kernel) (pa_cons (pv 1) (pa_cons (pe_callB call_len_seq (by rfl) T.n_len (by decide +kernel) (pa_cons (pe_lc (own := [("other", 3)]) (g := gName 3) (by rfl) sc__law_breadth.nd (pi_list (pv 0)) (blkOk_by (own := [("other", 3)]) (N := nm__law_breadth) (sc := defScope s__law_breadth) (by decide +kernel)) (fun _ _ _ _ _ => (pg_name (i := 3) sc__law_breadth.nd rfl (.inl rfl))) (fun _ _ _ _ _ => (pts_one (pt_cmpR op_eq (pv 3) (pv 2) (nomark _)))) (fun _ _ _ _ _ => (pv 3))) pa_nil)) pa_nil))))))
      (pss_one (ps_ret (pv 1))))), ?_⟩
    obtain ⟨a, d, rfl, hS, hd, hl, q⟩ := h
    have pl : ((parL d).map oV).length = d.length := by simp [parL]
    refine ⟨_, rfl, a, rfl, ⟨_, hS⟩, for_list (xs := (parL d).map oV) (fun i σ H' => Same H H' ∧ ∃ m : Nat, (∃ x2 x3, σ = [some (.ref a), some (.int m), x2, x3]) ∧ (∀ j, j < i → (rowL d (parOf d j)).length ≤ m) ∧ (m = 0 ∨ ∃ j, j < i ∧ m = (rowL d (parOf d j)).length)) ⟨Same.refl _, 0, ⟨none, none, rfl⟩, fun j h => by omega, .inl rfl⟩ (fun i σ H' _ ⟨sm, _⟩ => sm.seq hS) ?_ ?_⟩
    · rintro i x σ H' hx ⟨sm, m, ⟨x2, x3, rfl⟩, m1, m2⟩
      obtain ⟨hi, rfl⟩ := map_get hx
      refine ⟨_, rfl, _, rfl, a, rfl, ⟨_, sm.seq hS⟩, fun Dd nD => lc_list (xs := (parL d).map oV) (fun i' H'' => Mk H' Dd (((List.range i').filter fun c => decide (parOf d c = parOf d i)).map fun c => oV (parOf d c)) H'') (Mk.start nD) (fun i' H'' _ m => m.same.seq (sm.seq hS)) ?_ ?_⟩
      · intro j x H'' hx mk
        obtain ⟨hj, rfl⟩ := map_get hx
        refine ⟨rfl, _, rfl, _, rfl, scal_oV _ _, _, rfl, ?_⟩
        rw [filter_step]
        refine ite2 (fun e => ?_) (fun e => ?_)
        · have e1 := oV_eq.mp (of_decide_eq_true e)
          rw [decide_eq_true e1, if_pos rfl, List.map_append]
          refine ⟨_, rfl, _, mk.at_, ?_, mk.push nD _⟩
          rw [List.length_map]
          exact Nat.lt_of_lt_of_le (Nat.lt_of_le_of_lt (filter_len _ _) (by omega : j < 20001)) (by decide)
        · have e1 : ¬ parOf d j = parOf d i := fun z => e (decide_eq_true (oV_eq.mpr z))
          rw [decide_eq_false e1, if_neg Bool.false_ne_true]
          exact mk
      · intro H'' mk
        rw [pl] at mk
        have ln : ((((List.range d.length).filter fun c => decide (parOf d c = parOf d i)).map fun c => oV (parOf d c)).length : Int) = ((rowL d (parOf d i)).length : Int) := by rw [List.length_map]; rfl
        refine ⟨Dd, _, rfl, .inl (sqL_of mk.at_), _, _, rfl, ?_⟩
        rw [ln]
        refine ⟨sm.trans mk.same, max m (rowL d (parOf d i)).length, ⟨some (oV (parOf d i)), x3, ?_⟩, fun j hj => ?_, ?_⟩
        · refine congrArg (fun y => [some (V.ref a), some (V.int y), some (oV (parOf d i)), x3]) ?_
          show (if ((rowL d (parOf d i)).length : Int) > (m : Int) then ((rowL d (parOf d i)).length : Int) else (m : Int)) = ((max m (rowL d (parOf d i)).length : Nat) : Int)
          split <;> omega
        · rcases Nat.lt_or_ge j i with l | l
          · have := m1 j l
            omega
          · rw [show j = i by omega]
            omega
        · rcases Nat.lt_or_ge m (rowL d (parOf d i)).length with l | l
          · exact .inr ⟨i, Nat.lt_succ_self _, by omega⟩
          · rcases m2 with z | ⟨j, hj, z⟩
            · exact .inl (by omega)
            · exact .inr ⟨j, by omega, by omega⟩
    · rintro σ H' ⟨sm, m, ⟨x2, x3, rfl⟩, m1, m2⟩
      rw [pl] at m1 m2
      refine ⟨_, rfl, q H' m sm ⟨fun j hj => ?_, ?_⟩⟩
      · rcases Nat.eq_zero_or_pos (rowK d j).length with z | z
        · omega
        · obtain ⟨c, hc⟩ := List.exists_mem_of_length_pos z
          obtain ⟨h1, h2⟩ := List.mem_filter.mp hc
          have h1 := List.mem_range.mp h1
          have h3 := (key_pk h1).mp (of_decide_eq_true h2)
          have := m1 c h1
          rw [rowK_eq, ← h3]
          exact this
      · rcases m2 with e | ⟨j, hj, e⟩
        · exact .inl e
        · refine .inr ⟨keyO d (parOf d j), Nat.le_of_lt_succ (keyO_lt hj), ?_⟩
          rw [rowK_eq, ← (key_pk hj).mp rfl]
          exact e
end

section
variable {P : Program} {w : World} {K : PySem.W.Frag} {mg : Str → Option Value} {base : Heap} {cMatchError cBadDocument : Addr}
def spIsMark (K : PySem.W.Frag) : Sp := fun vs H Q _ => ∃ v n, vs = [v] ∧ TyX K H v (.type n) ∧ n ∈ kinds ∧
  ((n ≠ "str" → Q (.bl false) H) ∧ (∀ z, v = .str z → z.length ≠ 1 → z.length ≤ 10000 ∧ Q (.bl false) H) ∧ (∀ c, v = .str ⟨#[c]⟩ → Q (.bl (markB c)) H))
theorem markB_mem (c : Nat) : decide (c ∈ ("abcdefgh" : Str).cps.toList) = markB c := by
  have e : ("abcdefgh" : Str).cps.toList = [97, 98, 99, 100, 101, 102, 103, 104] := by decide
  rw [e]
  unfold markB
  rw [Bool.eq_iff_iff]
  simp only [List.mem_cons, List.not_mem_nil, or_false, decide_eq_true_eq, Bool.and_eq_true]
  omega
theorem str_one {z : Str} (h : z.length = 1) : ∃ c, z = ⟨#[c]⟩ := by
  obtain ⟨a⟩ := z
  obtain ⟨l⟩ := a
  match l, h with
  | [c], _ => exact ⟨c, rfl⟩
theorem ty_str_inv {K : PySem.W.Frag} {H : Hp} {v : V} (h : TyX K H v (.type "str")) : ∃ z, v = .str z := by
  generalize ht : Value.type "str" = t at h
  cases h with
  | base b => cases b <;> first | exact ⟨_, rfl⟩ | (exfalso; revert ht; simp)
  | _ => exfalso; revert ht; simp
theorem ty_str_val {K : PySem.W.Frag} {H : Hp} {z : Str} {n : String} (h : TyX K H (.str z) (.type n)) : n = "str" := by
  cases h with
  | base b => cases b; rfl
theorem ok_is_mark (T : Top K mg cMatchError cBadDocument) : Cl P w K mg base 1 "is_mark" ["thing"] (spIsMark K) := by
  refine T.d_is_mark.ok sc_is_mark (fun vs H Q E h => ?_) (fun f cdv A outer s H vs Q E hr h => ?_)
  · obtain ⟨v, n, rfl, _⟩ := h
    rfl
  · refine ⟨_, (pss_one (ps_ret (pe_and (pe_callB call_isi (by rfl) T.n_isinstance (by decide +kernel) (pa_cons (pv 0) (pa_cons (pe_bltn (v := .ty "str") (by rfl) T.n_str (by decide +kernel) rfl) pa_nil))) (pe_and (pe_cmpR op_eq (pe_callB call_len_str (by rfl) T.n_len (by decide +kernel) (pa_cons (pv 0) pa_nil)) pe_int (nomark _)) (pe_one (pe_cmpR op_in_sign (pv 0) (C8.pe_gc (by rfl) T.v_MARKS) rfl)))))), ?_⟩
    obtain ⟨v, n, rfl, ty, hn, q0, q1, q2⟩ := h
    have k1 : PySem.W.kitOne K (.type n) (.type "str") = some (n == "str") := by
      simp only [kinds, List.mem_cons, List.not_mem_nil, or_false] at hn
      rcases hn with rfl | rfl | rfl | rfl | rfl | rfl | rfl <;> exact kit_ty (by decide +kernel)
    refine ⟨_, rfl, _, _, _, _, _, rfl, .ty "str", ty, k1, _, rfl, ?_⟩
    by_cases hs : n = "str"
    · subst hs
      obtain ⟨z, rfl⟩ := ty_str_inv ty
      refine iteT ?_
      by_cases hz : z.length = 1
      · obtain ⟨c, rfl⟩ := str_one hz
        refine ⟨_, rfl, _, rfl, by show 1 ≤ sizeLine; decide, rfl, _, rfl, iteT ?_⟩
        refine ⟨_, rfl, c, _, rfl, rfl, ?_⟩
        rw [markB_mem]
        exact q2 c rfl
      · obtain ⟨l, q⟩ := q1 z rfl hz
        refine ⟨_, rfl, _, rfl, Nat.le_trans l (by decide), rfl, _, rfl, ?_⟩
        rw [decide_eq_false (show ¬ V.int (z.length : Int) = V.int 1 from fun e => hz (by have := V.int.inj e; omega))]
        exact iteF q
    · have hb : (n == "str") = false := by simpa using hs
      rw [hb]
      exact iteF (q0 hs)
end

section
variable {P : Program} {w : World} {K : PySem.W.Frag} {mg : Str → Option Value} {base : Heap} {cMatchError cBadDocument : Addr}
def spIsInteger (K : PySem.W.Frag) : Sp := fun vs H Q _ => ∃ v n, vs = [v] ∧ TyX K H v (.type n) ∧ n ∈ kinds ∧ Q (.bl (n == "int")) H
theorem ok_is_integer (T : Top K mg cMatchError cBadDocument) : Cl P w K mg base 1 "is_integer" ["thing"] (spIsInteger K) := by
  refine T.d_is_integer.ok sc_is_integer (fun vs H Q E h => ?_) (fun f cdv A outer s H vs Q E hr h => ?_)
  · obtain ⟨v, n, rfl, _⟩ := h
    rfl
  · refine ⟨_, (pss_one (ps_ret (pe_and (pe_callB call_isi (by rfl) T.n_isinstance (by decide +kernel) (pa_cons (pv 0) (pa_cons (pe_bltn (v := .ty "int") (by rfl) T.n_int (by decide +kernel) rfl) pa_nil))) (pe_one (pe_not (pe_callB call_isi (by rfl) T.n_isinstance (by decide +kernel) (pa_cons (pv 0) (pa_cons (pe_bltn (v := .ty "bool") (by rfl) T.n_bool (by decide +kernel) rfl) pa_nil)))))))), ?_⟩
    obtain ⟨v, n, rfl, ty, hn, q⟩ := h
    have k1 : PySem.W.kitOne K (.type n) (.type "int") = some (n == "int" || n == "bool") := by
      simp only [kinds, List.mem_cons, List.not_mem_nil, or_false] at hn
      rcases hn with rfl | rfl | rfl | rfl | rfl | rfl | rfl <;> exact kit_ty (by decide +kernel)
    have k2 : PySem.W.kitOne K (.type n) (.type "bool") = some (n == "bool") := by
      simp only [kinds, List.mem_cons, List.not_mem_nil, or_false] at hn
      rcases hn with rfl | rfl | rfl | rfl | rfl | rfl | rfl <;> exact kit_ty (by decide +kernel)
    refine ⟨_, rfl, _, _, _, _, _, rfl, .ty "int", ty, k1, _, rfl, ite2 (fun e => ?_) (fun e => ?_)⟩
    · refine ⟨_, rfl, _, _, _, _, _, rfl, .ty "bool", ty, k2, _, rfl, ?_⟩
      have e2 : (!(n == "bool")) = (n == "int") := by
        revert e
        simp only [kinds, List.mem_cons, List.not_mem_nil, or_false] at hn
        rcases hn with rfl | rfl | rfl | rfl | rfl | rfl | rfl <;> decide
      rw [e2]
      exact q
    · have e2 : (n == "int") = false := by
        revert e
        simp only [kinds, List.mem_cons, List.not_mem_nil, or_false] at hn
        rcases hn with rfl | rfl | rfl | rfl | rfl | rfl | rfl <;> decide
      rw [e2] at q
      exact q
end

section
variable {P : Program} {w : World} {K : PySem.W.Frag} {mg : Str → Option Value} {base : Heap} {cMatchError cBadDocument : Addr}
def spIsBelow (K : PySem.W.Frag) : Sp := fun vs H Q _ => ∃ v n, ∃ b : Int, vs = [v, .int b] ∧ TyX K H v (.type n) ∧ n ∈ kinds ∧
  (n ≠ "int" → Q (.bl false) H) ∧ (∀ i, v = .int i → Q (.bl (decide (0 ≤ i ∧ i < b))) H)
theorem ok_is_below (T : Top K mg cMatchError cBadDocument) : Cl P w K mg base 2 "is_below" ["thing", "bound"] (spIsBelow K) := by
  have c_is_integer := ok_is_integer (P := P) (w := w) (base := base) T
  refine T.d_is_below.ok sc_is_below (fun vs H Q E h => ?_) (fun f cdv A outer s H vs Q E hr h => ?_)
  · obtain ⟨v, n, b, rfl, _⟩ := h
    rfl
  · refine ⟨_, (pss_one (ps_ret (pe_and (pcN c_is_integer hr (by decide) (pa_cons (pv 0) pa_nil)) (pe_one (pe_chain op_le op_lt pe_int (pv 0) (pv 1)))))), ?_⟩
    obtain ⟨v, n, b, rfl, ty, hn, q0, q1⟩ := h
    refine ⟨_, rfl, v, n, rfl, ty, hn, _, rfl, ?_⟩
    by_cases hi : n = "int"
    · subst hi
      obtain ⟨i, rfl⟩ := ty_int_inv ty
      have q := q1 i rfl
      refine iteT ?_
      refine ⟨_, rfl, _, _, rfl, rfl, _, rfl, ite2 (fun e => ?_) (fun e => ?_)⟩
      · have e1 : 0 ≤ i := of_decide_eq_true e
        refine ⟨_, rfl, _, _, rfl, rfl, ?_⟩
        have e2 : decide (0 ≤ i ∧ i < b) = decide (i < b) := by
          rw [Bool.eq_iff_iff]
          simp only [decide_eq_true_eq]
          exact ⟨fun h => h.2, fun h => ⟨e1, h⟩⟩
        rw [e2] at q
        exact q
      · have e1 : ¬ 0 ≤ i := fun h => e (decide_eq_true h)
        rw [decide_eq_false (fun h => e1 h.1)] at q
        exact q
    · have hb : (n == "int") = false := by simpa using hi
      rw [hb]
      exact iteF (q0 hi)
end

section
variable {P : Program} {w : World} {K : PySem.W.Frag} {mg : Str → Option Value} {base : Heap} {cMatchError cBadDocument : Addr}
def spIsForest (K : PySem.W.Frag) : Sp := fun vs H Q _ => ∃ v o, vs = [v] ∧ RepF K H v o ∧ Q (.bl (forB o)) H
theorem ok_is_forest (T : Top K mg cMatchError cBadDocument) : Cl P w K mg base 3 "is_forest" ["thing"] (spIsForest K) := by
  have c_is_mark := ok_is_mark (P := P) (w := w) (base := base) T
  have c_is_below := ok_is_below (P := P) (w := w) (base := base) T
  have kt : ∀ {n : String}, n ∈ kinds → PySem.W.kitOne K (.type n) (.type "tuple") = some (n == "tuple") := fun {n} hn => by
    simp only [kinds, List.mem_cons, List.not_mem_nil, or_false] at hn
    rcases hn with rfl | rfl | rfl | rfl | rfl | rfl | rfl <;> exact kit_ty (by decide +kernel)
  refine T.d_is_forest.ok sc_is_forest (fun vs H Q E h => ?_) (fun f cdv A outer s H vs Q E hr h => ?_)
  · obtain ⟨v, o, rfl, _⟩ := h
    rfl
  · refine ⟨_, (pss_cons (ps_if (PW.pt (pw_or (pt_not (pt_val (pe_callB call_isi (by rfl) T.n_isinstance (by decide +kernel) (pa_cons (pv 0) (pa_cons (pe_bltn (v := .ty "tuple") (by rfl) T.n_tuple (by decide +kernel) rfl) pa_nil))))) (pw_or1 (pt_cmpR op_gt (pe_callB call_len_seq (by rfl) T.n_len (by decide +kernel) (pa_cons (pv 0) pa_nil)) (C8.pe_gc (by rfl) T.v_MOST_NODES) (nomark _))))) (pss_one (ps_ret pe_bl)) pss_nil)
      (pss_cons (ps_set (i := 1) sc_is_forest.nd rfl (.inl rfl) pe_int)
      (pss_cons (ps_for (passes_of rfl) rfl (pi_tup (pv 0)) (pg_name (i := 2) sc_is_forest.nd rfl (.inl rfl)) (pss_cons (ps_if (PW.pt (pw_or (pt_not (pt_val (pe_callB call_isi (by rfl) T.n_isinstance (by decide +kernel) (pa_cons (pv 2) (pa_cons (pe_bltn (v := .ty "tuple") (by rfl) T.n_tuple (by decide +kernel) rfl) pa_nil))))) (pw_or1 (pt_cmpR op_ne (pe_callB call_len_seq (by rfl) T.n_len (by decide +kernel) (pa_cons (pv 2) pa_nil)) pe_int (nomark _))))) (pss_one (ps_ret pe_bl)) pss_nil)
      (pss_cons (ps_if (PW.pt (pw_or (pt_not (pt_val (pcN c_is_mark hr (by decide) (pa_cons (pe_ix ix_tup (pv 2) pe_int (fun _ _ => rfl)) pa_nil)))) (pw_or1 (pt_not (pt_val (pcN c_is_below hr (by decide) (pa_cons (pe_ix ix_tup (pv 2) pe_int (fun _ _ => rfl)) (pa_cons (pe_op op_add (pv 1) pe_int) pa_nil)))))))) (pss_one (ps_ret pe_bl)) pss_nil)
      (pss_one (ps_set (i := 1) sc_is_forest.nd rfl (.inl rfl) (pe_op op_add (pe_ix ix_tup (pv 2) pe_int (fun _ _ => rfl)) pe_int))))))
      (pss_one (ps_ret pe_bl))))), ?_⟩
    obtain ⟨v, o, rfl, r, q⟩ := h
    cases r with
    | @kind v n ty hn ht =>
      have hb : (n == "tuple") = false := by simpa using ht
      refine ⟨_, rfl, _, _, _, _, _, rfl, .ty "tuple", ty, kt hn, _, rfl, ?_⟩
      rw [hb]
      exact iteT (iteT q)
    | @tup a xs es hS r =>
      refine ⟨_, rfl, _, _, _, _, _, rfl, .ty "tuple", ty_t hS, kt (by decide), _, rfl, iteF ?_⟩
      have q : Q (.bl (decide (es.length ≤ 20000) && fOk 0 es)) H := q
      refine ⟨_, rfl, a, xs, rfl, .inr hS, _, _, rfl, rfl, _, rfl, ite2 (fun e => ?_) (fun e => ?_)⟩
      · have e1 : (20000 : Int) < xs.length := of_decide_eq_true e
        rw [r.len] at e1
        rw [decide_eq_false (by omega), Bool.false_and] at q
        exact q
      · have e1 : ¬ (20000 : Int) < xs.length := fun z => e (decide_eq_true z)
        rw [r.len] at e1
        rw [decide_eq_true (by omega), Bool.true_and] at q
        refine ⟨_, rfl, a, rfl, ⟨_, hS⟩, for_tup (xs := xs) (fun i σ H' => H' = H ∧ ∃ x, ∃ m : Int, σ = [some (.ref a), some (.int m), x] ∧ fOk 0 es = fOk m (es.drop i)) ⟨rfl, none, 0, rfl, rfl⟩ (fun i σ H' _ ⟨e, _⟩ => by rw [e]; exact hS) ?_ ?_⟩
        · rintro i x σ H' hx ⟨rfl, x2, m, rfl, em⟩
          have hi : i < es.length := by
            rw [← r.len]
            exact (List.getElem?_eq_some_iff.mp hx).1
          have hd : es.drop i = es[i] :: es.drop (i + 1) := List.drop_eq_getElem_cons hi
          rw [em, hd] at q
          have re := r.at_ i x es[i] hx (List.getElem?_eq_getElem hi)
          generalize he : es[i] = ek at re q
          cases re with
          | @kind _ n ty hn ht =>
            have hb : (n == "tuple") = false := by simpa using ht
            refine ⟨_, rfl, _, _, _, _, _, rfl, .ty "tuple", ty, kt hn, _, rfl, ?_⟩
            rw [hb]
            exact iteT (iteT q)
          | @len b ys h hl =>
            refine ⟨_, rfl, _, _, _, _, _, rfl, .ty "tuple", ty_t h, kt (by decide), _, rfl, iteF ?_⟩
            refine ⟨_, rfl, b, ys, rfl, .inr h, rfl, _, rfl, ?_⟩
            rw [decide_eq_false (show ¬ V.int (ys.length : Int) = V.int 2 from fun z => hl (by have := V.int.inj z; omega))]
            exact iteT q
          | @fst b y1 y2 n h h1 hn hs =>
            refine ⟨_, rfl, _, _, _, _, _, rfl, .ty "tuple", ty_t h, kt (by decide), _, rfl, iteF ?_⟩
            refine ⟨_, rfl, b, _, rfl, .inr h, rfl, _, rfl, iteF ?_⟩
            refine ⟨_, rfl, b, _, _, _, rfl, rfl, h, atI_nat (j := 0) rfl, y1, n, rfl, h1, hn, fun _ => ⟨_, rfl, iteT (iteT q)⟩, fun z e => ?_, fun c e => ?_⟩
            · subst e
              exact (hs (ty_str_val h1)).elim
            · subst e
              exact (hs (ty_str_val h1)).elim
          | @txt b z y2 h hz hl =>
            refine ⟨_, rfl, _, _, _, _, _, rfl, .ty "tuple", ty_t h, kt (by decide), _, rfl, iteF ?_⟩
            refine ⟨_, rfl, b, _, rfl, .inr h, rfl, _, rfl, iteF ?_⟩
            refine ⟨_, rfl, b, _, _, _, rfl, rfl, h, atI_nat (j := 0) rfl, .str z, "str", rfl, ty_str _, by decide, fun n => (n rfl).elim, fun z' e _ => ?_, fun c e => ?_⟩
            · cases e
              exact ⟨hl, _, rfl, iteT (iteT q)⟩
            · cases e
              exact (hz rfl).elim
          | @snd b c y2 n h h2 hn hi' =>
            refine ⟨_, rfl, _, _, _, _, _, rfl, .ty "tuple", ty_t h, kt (by decide), _, rfl, iteF ?_⟩
            refine ⟨_, rfl, b, _, rfl, .inr h, rfl, _, rfl, iteF ?_⟩
            refine ⟨_, rfl, b, _, _, _, rfl, rfl, h, atI_nat (j := 0) rfl, .str ⟨#[c]⟩, "str", rfl, ty_str _, by decide, fun n => (n rfl).elim, fun z' e hz => ?_, fun c' e => ?_⟩
            · cases e
              exact (hz rfl).elim
            · cases e
              refine ⟨_, rfl, ?_⟩
              cases hm : markB c with
              | false => exact iteT (iteT q)
              | true =>
                refine iteF ?_
                refine ⟨_, rfl, b, _, _, _, rfl, rfl, h, atI_nat (j := 1) rfl, _, rfl, _, _, rfl, rfl, y2, n, m + 1, rfl, h2, hn, fun _ => ⟨_, rfl, iteT q⟩, fun i e => ?_⟩
                subst e
                exact (hi' (ty_int_val h2)).elim
          | @ok b c k h =>
            have q : Q (.bl (if markB c = true ∧ 0 ≤ k ∧ k ≤ m then fOk (k + 1) (es.drop (i + 1)) else false)) H' := q
            refine ⟨_, rfl, _, _, _, _, _, rfl, .ty "tuple", ty_t h, kt (by decide), _, rfl, iteF ?_⟩
            refine ⟨_, rfl, b, _, rfl, .inr h, rfl, _, rfl, iteF ?_⟩
            refine ⟨_, rfl, b, _, _, _, rfl, rfl, h, atI_nat (j := 0) rfl, .str ⟨#[c]⟩, "str", rfl, ty_str _, by decide, fun n => (n rfl).elim, fun z' e hz => ?_, fun c' e => ?_⟩
            · cases e
              exact (hz rfl).elim
            · cases e
              refine ⟨_, rfl, ?_⟩
              cases hm : markB c with
              | false =>
                rw [if_neg (fun z => by rw [hm] at z; cases z.1)] at q
                exact iteT (iteT q)
              | true =>
                refine iteF ?_
                refine ⟨_, rfl, b, _, _, _, rfl, rfl, h, atI_nat (j := 1) rfl, _, rfl, _, _, rfl, rfl, .int k, "int", m + 1, rfl, ty_int _, by decide, fun n => (n rfl).elim, fun i' e => ?_⟩
                cases e
                refine ⟨_, rfl, ?_⟩
                by_cases hk : 0 ≤ k ∧ k < m + 1
                · rw [decide_eq_true hk]
                  refine iteF ?_
                  refine ⟨_, rfl, b, _, _, _, rfl, rfl, h, atI_nat (j := 1) rfl, _, _, rfl, rfl, rfl, some (.ref b), k + 1, rfl, ?_⟩
                  rw [em, hd, he]
                  show (if markB c = true ∧ 0 ≤ k ∧ k ≤ m then fOk (k + 1) (es.drop (i + 1)) else false) = _
                  rw [if_pos ⟨hm, hk.1, by omega⟩]
                · rw [decide_eq_false hk]
                  rw [if_neg (fun z => hk ⟨z.2.1, by omega⟩)] at q
                  exact iteT q
        · rintro σ H' ⟨rfl, x2, m, rfl, em⟩
          rw [em, r.len, List.drop_length] at q
          exact q
end

section
variable {P : Program} {w : World} {K : PySem.W.Frag} {mg : Str → Option Value} {base : Heap} {cMatchError cBadDocument : Addr}
def spNeedDocument (K : PySem.W.Frag) (C : Addr) : Sp := fun vs H Q E => ∃ v o, vs = [v] ∧ RepF K H v o ∧ (forB o = true → Q .non H) ∧ (forB o = false → E (.ref C) none H)
theorem ok_need_document (T : Top K mg cMatchError cBadDocument) : Cl P w K mg base 4 "need_document" ["document"] (spNeedDocument K cBadDocument) := by
  have c_is_forest := ok_is_forest (P := P) (w := w) (base := base) T
  refine T.d_need_document.ok sc_need_document (fun vs H Q E h => ?_) (fun f cdv A outer s H vs Q E hr h => ?_)
  · obtain ⟨v, o, rfl, _⟩ := h
    rfl
  · refine ⟨_, (pss_one (ps_if (pt_not (pt_val (pcN c_is_forest hr (by decide) (pa_cons (pv 0) pa_nil)))) (pss_one (ps_raise rfl (takes_of rfl rfl rfl rfl) (pmk_own PySem.F.excBase_ValueError T.e_BadDocument.x T.e_BadDocument.g T.e_BadDocument.k (raises_own T.e_BadDocument.b T.e_BadDocument.t) (by rfl)))) pss_nil)), ?_⟩
    obtain ⟨v, o, rfl, r, qy, qn⟩ := h
    refine ⟨_, rfl, v, o, rfl, r, _, rfl, ?_⟩
    cases hb : forB o with
    | true => exact iteF (qy hb)
    | false => exact iteT (qn hb)
end

section
variable {P : Program} {w : World} {K : PySem.W.Frag} {mg : Str → Option Value} {base : Heap} {cMatchError cBadDocument : Addr}
def spDepthOf (K : PySem.W.Frag) (C : Addr) : Sp := fun vs H Q E => ∃ v, vs = [v] ∧
  ((∃ d, DocAt K H v d ∧ IsDoc d ∧ d.length ≤ 20000 ∧ ∀ H' m, Same H H' → IsDeep d m → Q (nV m) H') ∨
   (∃ o, RepF K H v o ∧ forB o = false ∧ E (.ref C) none H))
theorem ok_depth_of (T : Top K mg cMatchError cBadDocument) : Cl P w K mg base 5 "depth_of" ["document"] (spDepthOf K cBadDocument) := by
  have c_need_document := ok_need_document (P := P) (w := w) (base := base) T
  refine T.d_depth_of.ok sc_depth_of (fun vs H Q E h => ?_) (fun f cdv A outer s H vs Q E hr h => ?_)
  · obtain ⟨v, rfl, _⟩ := h
    rfl
  · refine ⟨_, (pss_cons (ps_expr (pcT c_need_document hr (by decide) (takes_of rfl rfl rfl rfl) (pa_cons (pv 0) pa_nil)))
      (pss_one (ps_ret (pe_callBK (cr_maxDf (d := 0) rfl hr.units) (by rfl) T.n_max (by decide +kernel) (pa_cons (pe_lc (own := [("mark", 1), ("depth", 2)]) (g := gTup _ 2 (gCons (gName 1) (gCons (gName 2) gNil))) (tt := tYes) (by rfl) sc_depth_of.nd (pi_tup (pv 0)) (blkOk_by (own := [("mark", 1), ("depth", 2)]) (N := nm_depth_of) (sc := defScope s_depth_of) (by decide +kernel)) (fun _ _ _ _ _ => (pg_tup rfl (pgs_cons (pg_name (i := 1) sc_depth_of.nd rfl (.inl rfl)) (pgs_cons (pg_name (i := 2) sc_depth_of.nd rfl (.inl rfl)) pgs_nil)))) (fun _ _ _ _ _ => pts_nil) (fun _ _ _ _ _ => (pe_op op_add (pv 2) pe_int))) pa_nil) (pk_cons pe_int pk_nil))))), ?_⟩
    obtain ⟨v, rfl, ⟨d, D, hd, hl, q⟩ | ⟨o, r, hb, q⟩⟩ := h
    · refine ⟨_, rfl, v, _, rfl, D.repF, fun _ => ?_, fun z => ?_⟩
      · obtain ⟨a, xs, rfl, hS, E0⟩ := D.ex
        refine ⟨_, rfl, a, rfl, ⟨_, hS⟩, fun Dd nD => lc_tup (xs := xs) (fun i H' => Mk H Dd (((List.range i).map fun i => (dep d i : Int) + 1).map V.int) H') (Mk.start nD) (fun i H' _ m => m.keep.seqT hS) ?_ ?_⟩
        · intro i x H' hx m
          have hi : i < d.length := by
            have := (List.getElem?_eq_some_iff.mp hx).1
            rwa [E0.len] at this
          obtain ⟨b, hb, tb⟩ := E0.get hi
          rw [hb] at hx
          cases hx
          refine ⟨b, _, rfl, m.keep.seqT tb, rfl, _, _, rfl, _, _, rfl, rfl, rfl, iteT (B := True) ?_⟩
          refine ⟨_, rfl, _, _, rfl, rfl, _, m.at_, ?_, ?_⟩
          · rw [List.length_map, List.length_map, List.length_range]
            exact Nat.lt_of_lt_of_le (by omega : i < 20001) (by decide)
          · rw [List.range_succ, List.map_append, List.map_append]
            exact m.push nD _
        · intro H' m
          rw [E0.len] at m
          refine ⟨Dd, (List.range d.length).map fun i => (dep d i : Int) + 1, rfl, rfl, sqL_of m.at_, fun z h0 h1 h2 => ?_⟩
          have nz : 0 ≤ z := by
            rcases Nat.eq_zero_or_pos d.length with e | e
            · rw [h0 (by rw [e]; rfl)]
              exact Int.le_refl _
            · have := h1 ((dep d 0 : Int) + 1) (List.mem_map.mpr ⟨0, List.mem_range.mpr e, rfl⟩)
              omega
          have := q H' z.toNat m.same ⟨fun e => ?_, fun i hi => ?_, fun e => ?_⟩
          · show Q (.int z) H'
            rw [← Int.toNat_of_nonneg nz]
            exact this
          · rw [h0 (by rw [e]; rfl)]
            rfl
          · have := h1 ((dep d i : Int) + 1) (List.mem_map.mpr ⟨i, List.mem_range.mpr hi, rfl⟩)
            omega
          · obtain ⟨i, hi, ei⟩ := List.mem_map.mp (h2 (fun z => by
              have := congrArg List.length z
              rw [List.length_map, List.length_range] at this
              have : d.length = 0 := this
              omega))
            exact ⟨i, List.mem_range.mp hi, by omega⟩
      · rw [forB_doc hd hl] at z
        cases z
    · exact ⟨_, rfl, v, o, rfl, r, fun z => (by rw [hb] at z; cases z), fun _ => q⟩
end

section
variable {P : Program} {w : World} {K : PySem.W.Frag} {mg : Str → Option Value} {base : Heap} {cMatchError cBadDocument : Addr}
structure ParInv (a pt at_ : Addr) (d : Doc) (H : Hp) (i : Nat) (σ : L2.St) (H' : Hp) : Prop where
  ex : ∃ x3 x4 x5 st, σ = [some (.ref a), some (.ref pt), some (.ref at_), x3, x4, x5] ∧ Same H H' ∧ H' pt = some (.lst (((List.range i).map (parOf d)).map oV)) ∧ H' at_ = some (.lst (st.map nV)) ∧ Stack d i st ∧ (i < d.length → dep d i ≤ st.length) ∧ st.length ≤ i
theorem ok_parents_of (T : Top K mg cMatchError cBadDocument) : Cl P w K mg base 1 "parents_of" ["document"] (spParentsOf K) := by
  refine T.d_parents_of.ok sc_parents_of (fun vs H Q E h => ?_) (fun f cdv A outer s H vs Q E hr h => ?_)
  · obtain ⟨v, d, rfl, _⟩ := h
    rfl
  · refine ⟨_, (pss_cons (ps_set (i := 1) sc_parents_of.nd rfl (.inl rfl) (pe_lst pa_nil))
      (pss_cons (ps_set (i := 2) sc_parents_of.nd rfl (.inl rfl) (pe_lst pa_nil))
      (pss_cons (ps_for (passes_of rfl) rfl (pi_enumT (by rfl) T.n_enumerate (pa_cons (pv 0) pa_nil)) (pg_tup rfl (pgs_cons (pg_name (i := 3) sc_parents_of.nd rfl (.inl rfl)) (pgs_cons (pg_tup rfl (pgs_cons (pg_name (i := 4) sc_parents_of.nd rfl (.inl rfl)) (pgs_cons (pg_name (i := 5) sc_parents_of.nd rfl (.inl rfl)) pgs_nil))) pgs_nil))) (pss_cons (ps_while (passes_of rfl) (pt_cmpR op_gt (pe_callB call_len_seq (by rfl) T.n_len (by decide +kernel) (pa_cons (pv 2) pa_nil)) (pv 5) (nomark _)) (pss_one (ps_expr (pe_bm0 PySem.F.plainAttrs_list PySem.F.slot_list_pop PySem.F.type_list_pop mt_pop (pv 2)))))
      (pss_cons (ps_expr (pe_bm PySem.F.plainAttrs_list PySem.F.slot_list_append PySem.F.type_list_append mt_append (pv 1) (pa_cons (pe_ifExp (pt_cmpR op_gt (pv 5) pe_int (nomark _)) (pe_ix ix_list (pv 2) (pe_un un_neg pe_int) (fun _ _ => rfl)) pe_non) pa_nil)))
      (pss_one (ps_expr (pe_bm PySem.F.plainAttrs_list PySem.F.slot_list_append PySem.F.type_list_append mt_append (pv 2) (pa_cons (pv 3) pa_nil)))))))
      (pss_one (ps_ret (pv 1)))))), ?_⟩
    obtain ⟨v, d, rfl, D, hd, hl, q⟩ := h
    obtain ⟨a, xs, rfl, hS, E0⟩ := D.ex
    refine ⟨Nat.zero_le _, fun pt np => ⟨Nat.zero_le _, fun at_ na => ?_⟩⟩
    have S2 := (same_new (o := .lst []) np).trans (same_new (o := .lst []) na)
    have npa : pt ≠ at_ := fun z => by rw [← z, upd_same] at na; cases na
    have na0 : H at_ = none := (same_new np).free na
    refine ⟨_, rfl, a, xs, rfl, (Keep.of S2).seqT hS, for_G (ParInv a pt at_ d H)
      ⟨none, none, none, [], rfl, S2, same_new na _ _ upd_same, upd_same, Stack.nil, fun _ => by rw [hd.first]; exact Nat.zero_le _, Nat.le_refl _⟩ (fun i σ H' _ I => by obtain ⟨_, _, _, _, _, sm, _⟩ := I.ex; exact (Keep.of sm).seqT hS) ?_ ?_⟩
    · intro i T0 x σ H' hi hx nT I
      obtain ⟨x3, x4, x5, st, rfl, sm, hp, ha, St, hdep, hst⟩ := I.ex
      rw [E0.len] at hi
      obtain ⟨b, hb, tb⟩ := E0.get hi
      rw [hb] at hx
      cases hx
      have S1 := same_new (o := .tup [.int (i : Nat), .ref b]) nT
      have sm1 := sm.trans S1
      refine ⟨T0, _, rfl, sqT_of upd_same, rfl, _, _, rfl, _, _, rfl, ⟨b, _, rfl, (Keep.of sm1).seqT tb, rfl, _, _, rfl, _, _, rfl, rfl, rfl, ?_⟩⟩
      refine ⟨fun m σ' H2 => ∃ n, σ' = [some (.ref a), some (.ref pt), some (.ref at_), some (.int (i : Nat)), some (.str ⟨#[mrk d i]⟩), some (.int (dep d i))] ∧ Same H H2 ∧ H2 pt = some (.lst (((List.range i).map (parOf d)).map oV)) ∧ H2 at_ = some (.lst ((st.take n).map nV)) ∧ m = n ∧ n ≤ st.length ∧ dep d i ≤ n,
        ⟨st.length, st.length, rfl, sm1, S1 _ _ hp, by rw [List.take_length]; exact S1 _ _ ha, rfl, Nat.le_refl _, hdep hi⟩, ?_⟩
      rintro m σ' H2 ⟨n, rfl, sm2, hp2, ha2, rfl, hn, hdn⟩
      have ln : (st.take m).length = m := by rw [List.length_take]; omega
      refine ⟨_, rfl, at_, _, rfl, .inl (sqL_of ha2), _, rfl, _, _, rfl, rfl, _, rfl, ?_⟩
      rw [List.length_map, ln]
      refine ite2 (fun e => ?_) (fun e => ?_)
      · have e1 : (dep d i : Int) < m := of_decide_eq_true e
        refine ⟨_, fun _ _ z => z, ?_⟩
        refine ⟨_, rfl, .inl ⟨rfl, _, sqL_of ha2⟩, at_, _, nV (st[m - 1]'(by omega)), rfl, rfl, ha2, ?_, ?_⟩
        · rw [List.length_map, ln, List.getElem?_map, List.getElem?_take_of_lt (by omega), List.getElem?_eq_getElem (by omega)]
          rfl
        · refine ⟨m - 1, by omega, m - 1, rfl, ?_, ?_, ?_, rfl, by omega, by omega⟩
          · intro b' o hb'
            have : b' ≠ at_ := fun z => by rw [z, na0] at hb'; cases hb'
            rw [upd_ne this]
            exact sm2 b' o hb'
          · rw [upd_ne npa]
            exact hp2
          · rw [upd_same, ← List.map_dropLast, List.dropLast_eq_take, ln, List.take_take, Nat.min_eq_left (by omega)]
      · have e1 : ¬ (dep d i : Int) < m := fun z => e (decide_eq_true z)
        have em : m = dep d i := by omega
        have StC := St.cut m
        have lm : (st.take m).length = dep d i := by rw [ln, em]
        refine ⟨_, rfl, .inl ⟨rfl, _, sqL_of hp2⟩, ?_⟩
        refine val_go (oV (parOf d i)) (fun Q' q' => ?_) ?_
        · refine ⟨_, rfl, _, _, rfl, rfl, _, rfl, ite2 (fun e2 => ?_) (fun e2 => ?_)⟩
          · have e3 : (0 : Int) < dep d i := of_decide_eq_true e2
            have hlt : (st.take m).length - 1 < (st.take m).length := by rw [lm]; omega
            have hj : (st.take m)[(st.take m).length - 1]? = some ((st.take m)[(st.take m).length - 1]'hlt) := List.getElem?_eq_getElem hlt
            rw [StC.par lm hj (by omega)] at q'
            refine ⟨_, rfl, 1, rfl, at_, _, -1, _, rfl, rfl, sqL_of ha2, atI_neg1 (v := nV ((st.take m)[(st.take m).length - 1]'hlt)) ?_, q'⟩
            rw [List.length_map, List.getElem?_map, hj]
            rfl
          · have e3 : ¬ (0 : Int) < dep d i := fun z => e2 (decide_eq_true z)
            rw [(hd.top hi).mpr (by omega)] at q'
            exact q'
        · have lp : (((List.range i).map (parOf d)).map oV).length < sizeLine := by
            rw [List.length_map, List.length_map, List.length_range]
            exact Nat.lt_of_lt_of_le (by omega : i < 20001) (by decide)
          have lq : ((st.take m).map nV).length < sizeLine := by
            rw [List.length_map, ln]
            exact Nat.lt_of_lt_of_le (by omega : m < 20001) (by decide)
          have ha3 : upd H2 pt (.lst ((((List.range i).map (parOf d)).map oV) ++ [oV (parOf d i)])) at_ = some (.lst ((st.take m).map nV)) := by
            rw [upd_ne npa.symm]
            exact ha2
          refine ⟨pt, _, _, rfl, rfl, hp2, lp, _, rfl, .inl ⟨rfl, _, sqL_of ha3⟩, _, rfl, at_, _, _, rfl, rfl, ha3, lq, ?_⟩
          refine ⟨_, _, _, st.take m ++ [i], rfl, ?_, ?_, ?_, StC.push lm, ?_, ?_⟩
          · intro b' o' hb'
            have n1 : b' ≠ at_ := fun z => by rw [z, na0] at hb'; cases hb'
            have n2 : b' ≠ pt := fun z => by rw [z, np] at hb'; cases hb'
            rw [upd_ne n1, upd_ne n2]
            exact sm2 b' o' hb'
          · rw [upd_ne npa, upd_same, parL_step, List.map_append]
            rfl
          · rw [upd_same, List.map_append]
            rfl
          · intro h
            have := hd.step i h
            rw [List.length_append, lm]
            exact this
          · rw [List.length_append, ln]
            show m + 1 ≤ i + 1
            omega
    · intro σ H' I
      obtain ⟨x3, x4, x5, st, rfl, sm, hp, ha, St, hdep, hst⟩ := I.ex
      refine ⟨_, rfl, q H' pt sm np ?_⟩
      rw [E0.len] at hp
      exact hp
end

section
variable {P : Program} {w : World} {K : PySem.W.Frag} {mg : Str → Option Value} {base : Heap} {cMatchError cBadDocument : Addr}
theorem ok_rows_of (T : Top K mg cMatchError cBadDocument) : Cl P w K mg base 2 "rows_of" ["document"] (spRowsOf K) := by
  have c_parents_of := ok_parents_of (P := P) (w := w) (base := base) T
  refine T.d_rows_of.ok sc_rows_of (fun vs H Q E h => ?_) (fun f cdv A outer s H vs Q E hr h => ?_)
  · obtain ⟨v, d, rfl, _⟩ := h
    rfl
  · refine ⟨_, (pss_cons (ps_setLc (i := 1) (own := [("k", 5)]) (g := gName 5) (tt := tYes) (by rfl) sc_rows_of.nd rfl rfl (sw_true rfl rfl rfl (by decide +kernel)) (pi_range1 (by rfl) T.n_range (pa_cons (pe_op op_add (pe_callB call_len_seq (by rfl) T.n_len (by decide +kernel) (pa_cons (pv 0) pa_nil)) pe_int) pa_nil)) (blkOk_by (own := [("k", 5)]) (N := nm_rows_of) (sc := defScope s_rows_of) (by decide +kernel)) (fun _ _ _ _ _ => (pg_name (i := 5) sc_rows_of.nd rfl (.inl rfl))) (fun _ _ _ _ _ => pts_nil) (fun _ _ _ _ _ => (pe_lst pa_nil)))
      (pss_cons (ps_for (passes_of rfl) rfl (pi_enum (by rfl) T.n_enumerate (pa_cons (pcN c_parents_of hr (by decide) (pa_cons (pv 0) pa_nil)) pa_nil)) (pg_tup rfl (pgs_cons (pg_name (i := 2) sc_rows_of.nd rfl (.inl rfl)) (pgs_cons (pg_name (i := 3) sc_rows_of.nd rfl (.inl rfl)) pgs_nil))) (pss_cons (ps_set (i := 4) sc_rows_of.nd rfl (.inl rfl) (pe_ix ix_list (pv 1) (pe_ifExp (pt_cmpR op_isN (pv 3) pe_non (nomark _)) (pe_callB call_len_seq (by rfl) T.n_len (by decide +kernel) (pa_cons (pv 0) pa_nil)) (pv 3)) (fun _ _ => rfl)))
      (pss_one (ps_expr (pe_bm PySem.F.plainAttrs_list PySem.F.slot_list_append PySem.F.type_list_append mt_append (pv 4) (pa_cons (pv 2) pa_nil))))))
      (pss_one (ps_ret (pv 1))))), ?_⟩
    obtain ⟨v, d, rfl, D, hd, hl, q⟩ := h
    obtain ⟨a, xs, rfl, hS, E0⟩ := D.ex
    have big : ∀ i, i < 20003 → i < sizeLine := fun i h => Nat.lt_of_lt_of_le h (by decide)
    have xl : ((xs.length : Int) + 1).toNat = d.length + 1 := by rw [E0.len]; omega
    refine ⟨_, rfl, a, xs, rfl, .inr hS, _, _, rfl, rfl, _, rfl, by rw [E0.len]; omega, by rw [E0.len]; omega, fun Dr nD => lc_range (lo := 0) (n := ((xs.length : Int) + 1).toNat) (fun i H' => ∃ rs, RowsAt H H' Dr rs i (rowsTo d 0)) ⟨[], RowsAt.start nD⟩ ?_ ?_⟩
    · rintro i H' hi ⟨rs, R⟩
      rw [xl] at hi
      refine ⟨rfl, iteT (B := True) ?_⟩
      refine ⟨Nat.zero_le _, fun b nb => ⟨_, same_new nb _ _ R.at_, ?_, _, R.more nb rfl⟩⟩
      rw [List.length_map, R.len]
      exact big _ (by omega)
    rintro H1 ⟨rs, R1⟩
    rw [xl] at R1
    refine ⟨_, rfl, .ref a, d, rfl, D.keep (Keep.of R1.same), hd, hl, fun H2 pp s2 np hpp => ?_⟩
    have R2 := R1.next s2
    have npr : ∀ i b, rs[i]? = some b → b ≠ pp := fun i b h z => by
      rw [z] at h
      rw [(R1.row i pp h).1] at np
      cases np
    refine ⟨pp, _, rfl, sqL_of hpp, for_E (fun i σ H' => (∃ x2 x3 x4 x5, σ = [some (.ref a), some (.ref Dr), x2, x3, x4, x5]) ∧ RowsAt H H' Dr rs (d.length + 1) (rowsTo d i) ∧ H' pp = some (.lst ((parL d).map oV))) ⟨⟨none, none, none, none, rfl⟩, R2, hpp⟩ (fun i σ H' _ I => sqL_of I.2.2) ?_ ?_⟩
    · rintro i Tt x σ H' hx nT ⟨⟨x2, x3, x4, x5, rfl⟩, R, hp⟩
      obtain ⟨hi, rfl⟩ := map_get hx
      have S1 := same_new (o := .tup [.int (i : Nat), oV (parOf d i)]) nT
      have R' := R.next S1
      have hT : SqT K (upd H' Tt (.tup [.int (i : Nat), oV (parOf d i)])) Tt [.int (i : Nat), oV (parOf d i)] := sqT_of upd_same
      have hp3 := S1 _ _ hp
      generalize upd H' Tt (.tup [.int (i : Nat), oV (parOf d i)]) = H3 at R' hT hp3
      obtain ⟨b, hb, hb2, hbl, hbn, hbd⟩ := R'.get (keyO_lt hi)
      refine ⟨Tt, _, rfl, hT, rfl, _, _, rfl, _, _, rfl, rfl, ?_⟩
      refine ⟨_, rfl, val_go (nV (keyO d (parOf d i))) (fun Q' q' => ?_) ?_⟩
      · cases e : parOf d i with
        | none =>
          rw [e] at q'
          refine ⟨_, rfl, rfl, _, rfl, iteT ?_⟩
          refine ⟨_, rfl, a, xs, rfl, .inr ((Keep.of R'.same).seqT hS), ?_⟩
          rw [E0.len]
          exact q'
        | some n =>
          rw [e] at q'
          refine ⟨_, rfl, rfl, _, rfl, iteF ?_⟩
          exact ⟨_, rfl, q'⟩
      · refine ⟨Dr, _, _, _, rfl, rfl, sqL_of R'.at_, atI_nat hb2, ?_⟩
        refine ⟨_, rfl, .inl ⟨rfl, _, sqL_of hbl⟩, _, rfl, b, _, _, rfl, rfl, hbl, ?_, ?_⟩
        · rw [List.length_map]
          exact big _ (Nat.lt_of_le_of_lt (filter_len _ _) (by omega))
        · refine ⟨⟨_, _, _, _, rfl⟩, ?_, ?_⟩
          · rw [rowsTo_step]
            have := R'.put hb (rowsTo d i (keyO d (parOf d i)) ++ [i])
            rw [List.map_append] at this
            exact this
          · rw [upd_ne (npr _ _ hb).symm]
            exact hp3
    · rintro σ H' ⟨⟨x2, x3, x4, x5, rfl⟩, R, hp⟩
      refine ⟨_, rfl, q H' Dr rs ?_⟩
      rw [show ((parL d).map oV).length = d.length by simp [parL]] at R
      exact R
end

section
variable {P : Program} {w : World} {K : PySem.W.Frag} {mg : Str → Option Value} {base : Heap} {cMatchError cBadDocument : Addr}
def spBreadthOf (K : PySem.W.Frag) (C : Addr) : Sp := fun vs H Q E => ∃ v, vs = [v] ∧
  ((∃ d, DocAt K H v d ∧ IsDoc d ∧ d.length ≤ 20000 ∧ ∀ H' m, Same H H' → IsBroad d m → Q (nV m) H') ∨
   (∃ o, RepF K H v o ∧ forB o = false ∧ E (.ref C) none H))
theorem ok_breadth_of (T : Top K mg cMatchError cBadDocument) : Cl P w K mg base 5 "breadth_of" ["document"] (spBreadthOf K cBadDocument) := by
  have c_need_document := ok_need_document (P := P) (w := w) (base := base) T
  have c_rows_of := ok_rows_of (P := P) (w := w) (base := base) T
  refine T.d_breadth_of.ok sc_breadth_of (fun vs H Q E h => ?_) (fun f cdv A outer s H vs Q E hr h => ?_)
  · obtain ⟨v, rfl, _⟩ := h
    rfl
  · refine ⟨_, (pss_cons (ps_expr (pcT c_need_document hr (by decide) (takes_of rfl rfl rfl rfl) (pa_cons (pv 0) pa_nil)))
      (pss_one (ps_ret (pe_callB (cr_max rfl) (by rfl) T.n_max (by decide +kernel) (pa_cons (pe_lc (own := [("row", 1)]) (g := gName 1) (tt := tYes) (by rfl) sc_breadth_of.nd (pi_list (pcN c_rows_of hr (by decide) (pa_cons (pv 0) pa_nil))) (blkOk_by (own := [("row", 1)]) (N := nm_breadth_of) (sc := defScope s_breadth_of) (by decide +kernel)) (fun _ _ _ _ _ => (pg_name (i := 1) sc_breadth_of.nd rfl (.inl rfl))) (fun _ _ _ _ _ => pts_nil) (fun _ _ _ _ _ => (pe_callB (bLen rfl) (by rfl) T.n_len (by decide +kernel) (pa_cons (pv 1) pa_nil)))) pa_nil))))), ?_⟩
    obtain ⟨v, rfl, ⟨d, D, hd, hl, q⟩ | ⟨o, r, hb, q⟩⟩ := h
    · refine ⟨_, rfl, v, _, rfl, D.repF, fun _ => ?_, fun z => ?_⟩
      · refine ⟨_, rfl, v, d, rfl, D, hd, hl, fun H1 p rs R => ?_⟩
        have rl : (rs.map V.ref).length = d.length + 1 := by rw [List.length_map, R.len]
        refine ⟨p, rfl, ⟨_, sqL_of R.at_⟩, fun Dd nD => lc_list (xs := rs.map V.ref) (fun i H' => Mk H1 Dd (((List.range i).map fun j => ((rowK d j).length : Int)).map V.int) H') (Mk.start nD) (fun i H' _ m => m.same.seq (sqL_of R.at_)) ?_ ?_⟩
        · intro i x H' hx m
          have hi : i < d.length + 1 := by
            have := (List.getElem?_eq_some_iff.mp hx).1
            rwa [rl] at this
          obtain ⟨b, hb, hb2, hbl, hbn, hbd⟩ := (R.next m.same).get hi
          rw [hb2] at hx
          cases hx
          refine ⟨rfl, iteT (B := True) ?_⟩
          refine ⟨_, rfl, b, _, rfl, .inl (sqL_of hbl), _, m.at_, ?_, ?_⟩
          · rw [List.length_map, List.length_map, List.length_range]
            exact Nat.lt_of_lt_of_le (by omega : i < 20002) (by decide)
          · have := m.push nD (.int (((rowK d i).map nV).length : Int))
            rw [List.range_succ, List.map_append, List.map_append]
            have e2 : [V.int ((rowK d i).length : Int)] = [V.int (((rowK d i).map nV).length : Int)] := by rw [List.length_map]
            show Mk H1 Dd (_ ++ [V.int ((rowK d i).length : Int)]) _
            rw [e2]
            exact this
        · intro H' m
          rw [rl] at m
          refine ⟨Dd, (List.range (d.length + 1)).map fun j => ((rowK d j).length : Int), rfl, sqL_of m.at_, (by rw [List.length_map, List.length_range]; exact Nat.succ_pos _), fun z h1 h2 => ?_⟩
          obtain ⟨j, hj, ej⟩ := List.mem_map.mp h1
          have hj := List.mem_range.mp hj
          have := q H' (rowK d j).length (R.same.trans m.same) ⟨fun k hk => ?_, .inr ⟨j, by omega, rfl⟩⟩
          · show Q (.int z) H'
            rw [← ej]
            exact this
          · have := h2 ((rowK d k).length : Int) (List.mem_map.mpr ⟨k, List.mem_range.mpr (by omega), rfl⟩)
            omega
      · rw [forB_doc hd hl] at z
        cases z
    · exact ⟨_, rfl, v, o, rfl, r, fun z => (by rw [hb] at z; cases z), fun _ => q⟩
end

section
variable {P : Program} {w : World} {K : PySem.W.Frag} {mg : Str → Option Value} {base : Heap} {cMatchError cBadDocument : Addr}
theorem nat_le_sl {n : Nat} (h : n < 1000) : n ≤ sizeLine := Nat.le_of_lt (Nat.lt_of_lt_of_le h (by decide))
theorem deep_le {d : Doc} {m : Nat} (h : IsDoc d) (z : IsDeep d m) (hl : d.length ≤ 80) : m < 10 ^ 9 := by
  rcases Nat.eq_zero_or_pos d.length with e | e
  · rw [z.none_ e]
    decide
  · obtain ⟨i, h1, h2⟩ := z.at_ e
    have := h.dep_le i h1
    exact Nat.lt_of_lt_of_le (by omega : m < 82) (by decide)
theorem broad_le {d : Doc} {m : Nat} (z : IsBroad d m) (hl : d.length ≤ 80) : m < 10 ^ 9 := by
  rcases z.at_ with e | ⟨j, h1, h2⟩
  · rw [e]
    decide
  · have := filter_len (fun c => decide (keyO d (parOf d c) = j)) d.length
    have h2 : m = ((List.range d.length).filter fun c => decide (keyO d (parOf d c) = j)).length := h2
    exact Nat.lt_of_lt_of_le (by omega : m < 82) (by decide)
def spLaw (K : PySem.W.Frag) : Sp := fun vs H Q _ => ∃ (a : Addr) (ns : List Int), vs = [.ref a] ∧ SqL K H a (ns.map V.int) ∧ ns.length ≤ 63 ∧ (∀ z ∈ ns, z.natAbs.log2 ≤ 1048576) ∧ ∀ H', Q (.bl true) H'
theorem ok_law {fa : Addr} {fd : FuncData} (F : Fun K "law" "law" s_law fa fd) (T : Top K mg cMatchError cBadDocument) : FnG P w K mg base 60 fa fd ["script"] (spLaw K) := by
  have c__law_feed := ok__law_feed (P := P) (w := w) (base := base) T
  have c__law_drawn := ok__law_drawn (P := P) (w := w) (base := base) T
  have c__law_document := ok__law_document (P := P) (w := w) (base := base) T
  have c__law_oneS := ok__law_oneS (P := P) (w := w) (base := base) T
  have c__law_parents := ok__law_parents (P := P) (w := w) (base := base) T
  have c__law_depth := ok__law_depth (P := P) (w := w) (base := base) T
  have c__law_breadth := ok__law_breadth (P := P) (w := w) (base := base) T
  have c_depth_of := ok_depth_of (P := P) (w := w) (base := base) T
  have c_breadth_of := ok_breadth_of (P := P) (w := w) (base := base) T
  refine EM.Fun.okG F sc_law (fun vs H Q E h => ?_) (fun cdv A outer s H vs Q E hg hr h => ?_)
  · obtain ⟨a, ns, rfl, _⟩ := h
    rfl
  · have f := fa
    refine ⟨_, (pss_cons (ps_set (i := 1) sc_law.nd rfl (.inl rfl) (pcN c__law_feed hr (by decide) (pa_cons (pv 0) (pa_cons pe_int pa_nil))))
      (pss_cons (ps_set (i := 2) sc_law.nd rfl (.inl rfl) (pcN c__law_drawn hr (by decide) (pa_cons (pv 1) (pa_cons (pv 0) (pa_cons pe_int pa_nil)))))
      (pss_cons (ps_set (i := 3) sc_law.nd rfl (.inl rfl) (pcN c__law_document hr (by decide) (pa_cons (pcN c__law_feed hr (by decide) (pa_cons (pv 0) (pa_cons pe_int pa_nil))) (pa_cons pe_int pa_nil))))
      (C8.pss_cut (ps_set (i := 4) sc_law.nd rfl (.inl rfl) (pe_op op_catA (pe_tup (pa_cons (pe_tup (pa_cons (pcN c__law_oneS hr (by decide) (pa_cons (pv 1) (pa_cons pe_str pa_nil))) (pa_cons pe_int pa_nil))) pa_nil)) (pe_callTy call_tuple_of (by rfl) T.n_tuple (by decide +kernel) (pa_cons (pe_lc (own := [("mark", 7), ("depth", 8)]) (g := gTup _ 2 (gCons (gName 7) (gCons (gName 8) gNil))) (tt := tYes) (by rfl) sc_law.nd (pi_tup (pv 2)) (blkOk_by (own := [("mark", 7), ("depth", 8)]) (N := nm_law) (sc := defScope s_law) (by decide +kernel)) (fun _ _ _ _ _ => (pg_tup rfl (pgs_cons (pg_name (i := 7) sc_law.nd rfl (.inl rfl)) (pgs_cons (pg_name (i := 8) sc_law.nd rfl (.inl rfl)) pgs_nil)))) (fun _ _ _ _ _ => pts_nil) (fun _ _ _ _ _ => (pe_tup (pa_cons (pv 7) (pa_cons (pe_op op_add (pv 8) pe_int) pa_nil))))) pa_nil))))
      (pss_cons (ps_for (passes_of rfl) rfl (pi_list (pe_lst (pa_cons (pv 2) (pa_cons (pv 3) (pa_cons (pe_op op_catA (pv 2) (pv 3)) (pa_cons (pe_op op_catA (pv 4) (pv 3)) pa_nil)))))) (pg_name (i := 5) sc_law.nd rfl (.inl rfl)) (pss_cons (ps_set (i := 6) sc_law.nd rfl (.inl rfl) (pcN c__law_parents hr (by decide) (pa_cons (pv 5) pa_nil)))
      (pss_cons (ps_if (pt_cmpR op_ne (pe_callB (call_repr hg hr) (by rfl) T.n_repr (by decide +kernel) (pa_cons (pcT c_depth_of hr (by decide) (takes_of rfl rfl rfl rfl) (pa_cons (pv 5) pa_nil)) pa_nil)) (pe_callB (call_repr hg hr) (by rfl) T.n_repr (by decide +kernel) (pa_cons (pcN c__law_depth hr (by decide) (pa_cons (pv 6) pa_nil)) pa_nil)) (nomark _)) (pss_one (ps_ret pe_bl)) pss_nil)
      (pss_one (ps_if (pt_cmpR op_ne (pe_callB (call_repr hg hr) (by rfl) T.n_repr (by decide +kernel) (pa_cons (pcT c_breadth_of hr (by decide) (takes_of rfl rfl rfl rfl) (pa_cons (pv 5) pa_nil)) pa_nil)) (pe_callB (call_repr hg hr) (by rfl) T.n_repr (by decide +kernel) (pa_cons (pcN c__law_breadth hr (by decide) (pa_cons (pv 6) pa_nil)) pa_nil)) (nomark _)) (pss_one (ps_ret pe_bl)) pss_nil)))))
      (pss_one (ps_ret pe_bl))))))), ?_⟩
    obtain ⟨a, ns, rfl, hS, hlen, hb, q⟩ := h
    refine ⟨_, rfl, a, ns, 0, rfl, hS, hb, by decide, by decide, fun H1 p s1 np F1 => ?_⟩
    refine ⟨_, rfl, _, rfl, p, a, 0, 20, ns, rfl, F1, by decide, fun H' b => seqL_off hS np s1 b, hlen, hb, by decide, fun H2 v d b2 F2 D hd h1000 h62 => ?_⟩
    have hl : d.length ≤ 62 := by omega
    have hS2 := seqL_off hS np s1 b2
    refine ⟨_, rfl, a, ns, 2, rfl, hS2, hb, by decide, by decide, fun H3 p3 s3 np3 F3 => ?_⟩
    refine ⟨p3, 0, 12, rfl, F3, by decide, by decide, fun H4 v2 e b4 F4 De he hel => ?_⟩
    have npp : p ≠ p3 := fun z => by
      obtain ⟨ys, hy⟩ := F2.lst
      rw [z, np3] at hy
      cases hy
    have F2' : FeedAt H4 p (0 + 1) := F2.keep fun o ho => b4 p o npp (s3 _ _ ho)
    have D4 : DocAt K H4 v d := (D.keep (Keep.of s3)).keep (F3.keeps b4 F4)
    clear hS2 F3 F4 D
    obtain ⟨da, xs, rfl, hS4, E4⟩ := D4.ex
    refine ⟨fun σ' H' => ∃ vb db, σ' = [some (.ref a), some (.ref p), some (.ref da), some v2, some vb, none, none, none, none] ∧ DocAt K H' (.ref da) d ∧ DocAt K H' v2 e ∧ DocAt K H' vb db ∧ IsDoc db ∧ db.length ≤ 63, ?_, ?_⟩
    · have mt := mk_text (z := "abcdefgh") (by decide) (by decide) (by decide)
      refine ⟨_, rfl, p, 0 + 1, "abcdefgh", rfl, F2', by decide, mt.1, mt.2.1, fun H5 c g b5 F5 hc => ?_⟩
      have hk := mt.2.2 c (List.mem_of_getElem? hc)
      have K45 : Keep H4 H5 := F2'.keeps b5 F5
      refine ⟨by show 2 ≤ sizeLine; decide, fun t1 n1 => ⟨by show 1 ≤ sizeLine; decide, fun t2 n2 => ?_⟩⟩
      have S6 := (same_new (o := .tup [.str ⟨#[c]⟩, .int 0]) n1).trans (same_new (o := .tup [.ref t1]) n2)
      have l1 : SqT K (upd (upd H5 t1 (.tup [.str ⟨#[c]⟩, .int 0])) t2 (.tup [.ref t1])) t1 [.str ⟨#[c]⟩, .int 0] := sqT_of (same_new n2 _ _ upd_same)
      have l2 : SqT K (upd (upd H5 t1 (.tup [.str ⟨#[c]⟩, .int 0])) t2 (.tup [.ref t1])) t2 [.ref t1] := sqT_of upd_same
      generalize upd (upd H5 t1 (.tup [.str ⟨#[c]⟩, .int 0])) t2 (.tup [.ref t1]) = H6 at S6 l1 l2
      have K46 := K45.trans (Keep.of S6)
      have hS6 := K46.seqT hS4
      have E6 := E4.keep K46
      refine ⟨_, rfl, da, rfl, ⟨_, hS6⟩, fun Dd nD => lc_tup (xs := xs) (fun i H' => ∃ ys, Mk H6 Dd ys H' ∧ Entries K H' ys ((upD d).take i)) ⟨[], Mk.start nD, Entries.nil⟩ (fun i H' _ ⟨ys, m, _⟩ => m.keep.seqT hS6) ?_ ?_⟩
      · rintro i x H' hx ⟨ys, m, Ey⟩
        have hi : i < d.length := by
          have := (List.getElem?_eq_some_iff.mp hx).1
          rwa [E4.len] at this
        obtain ⟨b, hb, tb⟩ := E6.get hi
        rw [hb] at hx
        cases hx
        have yl : ys.length = i := by rw [Ey.len, List.length_take, upD_len]; omega
        refine ⟨b, _, rfl, m.keep.seqT tb, rfl, _, _, rfl, _, _, rfl, rfl, rfl, iteT (B := True) ?_⟩
        refine ⟨_, rfl, _, rfl, _, _, rfl, rfl, by show 2 ≤ sizeLine; decide, fun t nt => ?_⟩
        have m1 := m.next (same_new (o := .tup [.str ⟨#[mrk d i]⟩, .int ((dep d i : Int) + 1)]) nt)
        refine ⟨ys, m1.at_, Nat.lt_of_lt_of_le (by omega : ys.length < 100) (by decide), ys ++ [.ref t], m1.push nD _, ?_⟩
        have g : (upD d)[i]? = some (mrk d i, dep d i + 1) := by
          unfold upD
          rw [List.getElem?_map, get_dm hi]
          rfl
        rw [List.take_add_one, g]
        have KU : Keep (upd H' t (.tup [.str ⟨#[mrk d i]⟩, .int ((dep d i : Int) + 1)])) (upd (upd H' t (.tup [.str ⟨#[mrk d i]⟩, .int ((dep d i : Int) + 1)])) Dd (.lst (ys ++ [.ref t]))) := Keep.upd m1.at_
        exact ((Ey.keep (Keep.of (same_new nt))).keep KU).snoc ⟨t, rfl, KU.seqT (sqT_of upd_same)⟩
      · rintro H7 ⟨ys, m, Ey⟩
        rw [List.take_of_length_le (by rw [upD_len, E4.len]; exact Nat.le_refl _)] at Ey
        have yl : ys.length = d.length := by rw [Ey.len, upD_len]
        refine ⟨Dd, ys, rfl, .inl ⟨sqL_of m.at_, fun tt ntt => ?_⟩⟩
        have S8 := m.same.trans (same_new (o := .tup ys) ntt)
        refine catA_go ((Keep.of S8).seqT l2) (sqT_of upd_same) (nat_le_sl (by show 1 + ys.length < 1000; omega)) fun pb H' s8 hpb => ?_
        have S9 := S8.trans s8
        refine ⟨.ref pb, [(c, 0)] ++ upD d, rfl, D4.keep (K46.trans (Keep.of S9)), De.keep (K46.trans (Keep.of S9)), ⟨pb, _, rfl, hpb, Entries.app ?_ (Ey.keep ((Keep.of (same_new ntt)).trans (Keep.of s8)))⟩, hd.below hk, by rw [List.length_append, upD_len]; show 1 + d.length ≤ 63; omega⟩
        exact (Entries.nil.snoc (x := .ref t1) (e := (c, 0)) ⟨t1, rfl, (Keep.of S9).seqT l1⟩)
    rintro σ' H5 ⟨vb, db, rfl, D5, De5, Db5, hdb, hbl⟩
    clear D4 De E4 hS4 F2'
    obtain ⟨_, xs1, e1, x1, E1⟩ := D5.ex
    cases e1
    obtain ⟨ea, xs2, rfl, x2, E2⟩ := De5.ex
    obtain ⟨ba, xs3, rfl, x3, E3⟩ := Db5.ex
    refine ⟨_, rfl, _, rfl, _, rfl, _, rfl, catA_go x1 x2 (nat_le_sl (by rw [E1.len, E2.len]; omega)) fun c1 H6 s6 hc1 => ?_⟩
    refine ⟨_, rfl, _, rfl, catA_go ((Keep.of s6).seqT x3) ((Keep.of s6).seqT x2) (nat_le_sl (by rw [E3.len, E2.len]; omega)) fun c2 H7 s7 hc2 => ?_⟩
    have S7 := s6.trans s7
    refine ⟨by show 4 ≤ sizeLine; decide, fun la nla => ?_⟩
    have S8 := S7.trans (same_new (o := .lst [.ref da, .ref ea, .ref c1, .ref c2]) nla)
    have all : ∀ x ∈ [V.ref da, .ref ea, .ref c1, .ref c2], ∃ dd, DocAt K (upd H7 la (.lst [.ref da, .ref ea, .ref c1, .ref c2])) x dd ∧ IsDoc dd ∧ dd.length ≤ 80 := by
      have k8 := Keep.of (same_new (o := .lst [.ref da, .ref ea, .ref c1, .ref c2]) nla)
      intro x hx
      simp only [List.mem_cons, List.not_mem_nil, or_false] at hx
      rcases hx with rfl | rfl | rfl | rfl
      · exact ⟨d, D5.keep (Keep.of S8), hd, by omega⟩
      · exact ⟨e, De5.keep (Keep.of S8), he, by omega⟩
      · exact ⟨d ++ e, DocAt.keep (H := H7) ⟨c1, _, rfl, (Keep.of s7).seqT hc1, (E1.keep (Keep.of S7)).app (E2.keep (Keep.of S7))⟩ k8, hd.app he, by rw [List.length_append]; omega⟩
      · exact ⟨db ++ e, DocAt.keep (H := H7) ⟨c2, _, rfl, hc2, (E3.keep (Keep.of S7)).app (E2.keep (Keep.of S7))⟩ k8, hdb.app he, by rw [List.length_append]; omega⟩
    have lla : upd H7 la (.lst [V.ref da, .ref ea, .ref c1, .ref c2]) la = some (.lst [V.ref da, .ref ea, .ref c1, .ref c2]) := upd_same
    generalize upd H7 la (.lst [.ref da, .ref ea, .ref c1, .ref c2]) = H8 at all lla
    refine ⟨la, rfl, ⟨_, sqL_of lla⟩, for_list (xs := [V.ref da, .ref ea, .ref c1, .ref c2]) (fun i σ H' => Same H8 H' ∧ ∃ y5 y6 y7 y8, σ = [some (.ref a), some (.ref p), some (.ref da), some (.ref ea), some (.ref ba), y5, y6, y7, y8]) ⟨Same.refl _, none, none, none, none, rfl⟩ (fun i σ H' _ ⟨sm, _⟩ => sqL_of (sm _ _ lla)) ?_ ?_⟩
    · rintro i x σ H' hx ⟨sm, y5, y6, y7, y8, rfl⟩
      obtain ⟨dd, Dd, hdd, hdl⟩ := all x (List.mem_of_getElem? hx)
      have Dd := Dd.keep (Keep.of sm)
      refine ⟨_, rfl, x, dd, rfl, Dd, hdd, by omega, fun H9 pa s9 npa hpa => ?_⟩
      refine ⟨_, rfl, x, rfl, .inl ⟨dd, Dd.keep (Keep.of s9), hdd, by omega, fun HA m sA hm => ?_⟩⟩
      obtain ⟨z1, z2, z3, z4⟩ := (Sh.nat (m := 0) (n := 0) (deep_le hdd hm hdl)).all
      refine ⟨_, _, rfl, .int _, z1, z2, z3, z4, ?_⟩
      refine ⟨_, rfl, pa, dd, rfl, sqL_of (sA _ _ hpa), hdd, by omega, fun m' hm' => ?_⟩
      obtain rfl := hm.eq hm'
      refine ⟨_, _, rfl, .int _, z1, z2, z3, z4, ?_⟩
      refine ⟨rfl, _, rfl, ?_⟩
      rw [decide_eq_true rfl]
      refine iteF ?_
      refine ⟨_, rfl, x, rfl, .inl ⟨dd, Dd.keep (Keep.of (s9.trans sA)), hdd, by omega, fun HB n sB hn => ?_⟩⟩
      obtain ⟨w1, w2, w3, w4⟩ := (Sh.nat (m := 0) (n := 0) (broad_le hn hdl)).all
      refine ⟨_, _, rfl, .int _, w1, w2, w3, w4, ?_⟩
      refine ⟨_, rfl, pa, dd, rfl, sqL_of (sB _ _ (sA _ _ hpa)), hdd, by omega, fun HC n' sC hn' => ?_⟩
      obtain rfl := hn.eq hn'
      refine ⟨_, _, rfl, .int _, w1, w2, w3, w4, ?_⟩
      refine ⟨rfl, _, rfl, ?_⟩
      rw [decide_eq_true rfl]
      refine iteF ?_
      exact ⟨sm.trans (s9.trans (sA.trans (sB.trans sC))), _, _, _, _, rfl⟩
    · rintro σ H' ⟨sm, y5, y6, y7, y8, rfl⟩
      exact q _
end

end EM
open PySem PySem.W PyProof.Rows
set_option maxRecDepth 100000 in
set_option maxHeartbeats 0 in
theorem PySem.Challenge.cw_everymatch_k07_depth_and_breadth_holds : PySem.Challenge.rw_everymatch_k07_depth_and_breadth.Holds := by
  w_on; o_law; k_head; (case hw => w_witness2)
  k_fill
  refine EM.walk_G (l := PySem.Challenge.rw_everymatch_k07_depth_and_breadth) (k := 60) (sp := fun w => EM.spLaw _) rfl rfl ⟨rfl, by decide, by decide⟩ (fun w h Y => PySem.W.kIn_of Y) ?F (fun _ _ a ns hl hb _ hS => ⟨a, ns, rfl, hS, hl, fun z hz => EM.bits_log2 (hb z hz), fun _ => rfl⟩)
  case F =>
    intro w mg fa h KX G hmg
    refine' EM.law_mkG KX G hmg ?al ?ll ?cl ?kl (fun s v => .of_eq rfl) (fun base fd F => EM.ok_law F (EM.Top.mk (EM.defAt_mk KX G ?a1 ?l2 ?c3 ?k4 (fun _ _ _ _ _ _ us hl => match us, hl with | [_], _ => rfl))
        (EM.defAt_mk KX G ?a5 ?l6 ?c7 ?k8 (fun _ _ _ _ _ _ us hl => match us, hl with | [_, _], _ => rfl))
        (EM.defAt_mk KX G ?a9 ?l10 ?c11 ?k12 (fun _ _ _ _ _ _ us hl => match us, hl with | [_], _ => rfl))
        (EM.defAt_mk KX G ?a13 ?l14 ?c15 ?k16 (fun _ _ _ _ _ _ us hl => match us, hl with | [_], _ => rfl))
        (EM.defAt_mk KX G ?a17 ?l18 ?c19 ?k20 (fun _ _ _ _ _ _ us hl => match us, hl with | [_], _ => rfl))
        (EM.defAt_mk KX G ?a21 ?l22 ?c23 ?k24 (fun _ _ _ _ _ _ us hl => match us, hl with | [_], _ => rfl))
        (EM.defAt_mk KX G ?a25 ?l26 ?c27 ?k28 (fun _ _ _ _ _ _ us hl => match us, hl with | [_], _ => rfl))
        (EM.defAt_mk KX G ?a29 ?l30 ?c31 ?k32 (fun _ _ _ _ _ _ us hl => match us, hl with | [_], _ => rfl))
        (EM.defAt_mk KX G ?a33 ?l34 ?c35 ?k36 (fun _ _ _ _ _ _ us hl => match us, hl with | [_], _ => rfl))
        (EM.defAt_mk KX G ?a37 ?l38 ?c39 ?k40 (fun _ _ _ _ _ _ us hl => match us, hl with | [_, _], _ => rfl))
        (EM.defAt_mk KX G ?a41 ?l42 ?c43 ?k44 (fun _ _ _ _ _ _ us hl => match us, hl with | [_, _], _ => rfl))
        (EM.defAt_mk KX G ?a45 ?l46 ?c47 ?k48 (fun _ _ _ _ _ _ us hl => match us, hl with | [_, _], _ => rfl))
        (EM.defAt_mk KX G ?a49 ?l50 ?c51 ?k52 (fun _ _ _ _ _ _ us hl => match us, hl with | [_, _], _ => rfl))
        (EM.defAt_mk KX G ?a53 ?l54 ?c55 ?k56 (fun _ _ _ _ _ _ us hl => match us, hl with | [_], _ => rfl))
        (EM.defAt_mk KX G ?a57 ?l58 ?c59 ?k60 (fun _ _ _ _ _ _ us hl => match us, hl with | [_, _, _], _ => rfl))
        (EM.defAt_mk KX G ?a61 ?l62 ?c63 ?k64 (fun _ _ _ _ _ _ us hl => match us, hl with | [_], _ => rfl))
        (EM.defAt_mk KX G ?a65 ?l66 ?c67 ?k68 (fun _ _ _ _ _ _ us hl => match us, hl with | [_], _ => rfl))
        (EM.defAt_mk KX G ?a69 ?l70 ?c71 ?k72 (fun _ _ _ _ _ _ us hl => match us, hl with | [_], _ => rfl))
        (PySem.W.mg_none_of KX G ?z73)
        (PySem.W.mg_none_of KX G ?z74)
        (PySem.W.mg_none_of KX G ?z75)
        (PySem.W.mg_none_of KX G ?z76)
        (PySem.W.mg_none_of KX G ?z77)
        (PySem.W.mg_none_of KX G ?z78)
        (PySem.W.mg_none_of KX G ?z79)
        (PySem.W.mg_none_of KX G ?z80)
        (PySem.W.mg_none_of KX G ?z81)
        (PySem.W.mg_none_of KX G ?z82)
        (PySem.W.mg_none_of KX G ?z83)
        (PySem.W.mg_none_of KX G ?z84)
        (PySem.W.mg_none_of KX G ?z85)
        (EM.con_mk KX G ?v86 ?r87)
        (EM.con_mk KX G ?v88 ?r89)
        (EM.excAt_mk KX G ?e90 ?x91 ?k92 ?b93 ?y94 ?i95 ?s96)
        (EM.excAt_mk KX G ?e97 ?x98 ?k99 ?b100 ?y101 ?i102 ?s103)))
    (case a1 => k_is); (case l2 => k_is); (case c3 => k_is); (case k4 => k_is); (case a5 => k_is); (case l6 => k_is)
    (case c7 => k_is); (case k8 => k_is); (case a9 => k_is); (case l10 => k_is); (case c11 => k_is); (case k12 => k_is)
    (case a13 => k_is); (case l14 => k_is); (case c15 => k_is); (case k16 => k_is); (case a17 => k_is); (case l18 => k_is)
    (case c19 => k_is); (case k20 => k_is); (case a21 => k_is); (case l22 => k_is); (case c23 => k_is); (case k24 => k_is)
    (case a25 => k_is); (case l26 => k_is); (case c27 => k_is); (case k28 => k_is); (case a29 => k_is); (case l30 => k_is)
    (case c31 => k_is); (case k32 => k_is); (case a33 => k_is); (case l34 => k_is); (case c35 => k_is); (case k36 => k_is)
    (case a37 => k_is); (case l38 => k_is); (case c39 => k_is); (case k40 => k_is); (case a41 => k_is); (case l42 => k_is)
    (case c43 => k_is); (case k44 => k_is); (case a45 => k_is); (case l46 => k_is); (case c47 => k_is); (case k48 => k_is)
    (case a49 => k_is); (case l50 => k_is); (case c51 => k_is); (case k52 => k_is); (case a53 => k_is); (case l54 => k_is)
    (case c55 => k_is); (case k56 => k_is); (case a57 => k_is); (case l58 => k_is); (case c59 => k_is); (case k60 => k_is)
    (case a61 => k_is); (case l62 => k_is); (case c63 => k_is); (case k64 => k_is); (case a65 => k_is); (case l66 => k_is)
    (case c67 => k_is); (case k68 => k_is); (case a69 => k_is); (case l70 => k_is); (case c71 => k_is); (case k72 => k_is)
    (case z73 => k_is); (case z74 => k_is); (case z75 => k_is); (case z76 => k_is); (case z77 => k_is); (case z78 => k_is)
    (case z79 => k_is); (case z80 => k_is); (case z81 => k_is); (case z82 => k_is); (case z83 => k_is); (case z84 => k_is)
    (case z85 => k_is); (case v86 => k_is); (case r87 => exact ⟨_, rfl⟩); (case v88 => k_is); (case r89 => exact ⟨_, rfl⟩); (case e90 => k_is)
    (case x91 => k_exc); (case k92 => k_is); (case b93 => k_is); (case y94 => k_is); (case i95 => k_is); (case s96 => first | rfl | k_is)
    (case e97 => k_is); (case x98 => k_exc); (case k99 => k_is); (case b100 => k_is); (case y101 => k_is); (case i102 => k_is)
    (case s103 => first | rfl | k_is)
    (case al => k_is); (case ll => k_is); (case cl => k_is); (case kl => k_is)
