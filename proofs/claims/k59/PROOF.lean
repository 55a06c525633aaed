import PyProof.Rows.All
import Wide.All
import OpenK.AllK
import Wide.FinOn
import HandS.ForMost
import HandS.ForExc
import HandS.IsInst
import HandS.Style
import HandS.Wide
import HandS.Codes
import HandS.Defaults
import HandS.EndBits
import HandS.Conv
import HandS.TupAny
import HandS.TryMany
import KE.GoesMore
import KE.GoesEnum
import KE.KxText
import KE.DataMinMax
import KE.SortData
import HandS.SortKw
import PyProof.ReprBulk
import HandS.ExcInit
import HandS.ExcField
import HandS.Walk
import HandS.DeepEq
import HandS.WideBits
import PySem.Challenge.RW_everymatch_k59_shapes_and_near_ones
set_option Elab.async false
set_option linter.all false
set_option maxRecDepth 100000
set_option maxHeartbeats 4000000
namespace EM
open PySem PySem.Spec PyProof.Rows L2
/-! ### the top's facts, in short forms -/
/-- a def of the top without defaults -/
structure DefAt (K : PySem.W.Frag) (mg : Str → Option Value) (x : Str) (st : Stmt) (ps : List Str) : Prop where
  ex : ∃ (f : Addr) (fd : FuncData), mg x = some (.ref f) ∧ Fun K x x st f fd ∧ Binds K fd ps []
/-- a def with defaults dvs (all of them lacking, or none) -/
structure DefAtD (K : PySem.W.Frag) (mg : Str → Option Value) (x : Str) (st : Stmt) (ps : List Str) (dvs : List V) : Prop where
  ex : ∃ (f : Addr) (fd : FuncData), mg x = some (.ref f) ∧ FunD K x x (defArgs st) (defBody st) (defScope st) dvs [] f fd ∧ Binds K fd ps [] ∧ ∃ ds, Vals dvs ds ∧ Binds K fd ps ds
structure ExcAt (K : PySem.W.Frag) (mg : Str → Option Value) (x : Str) (C : Addr) : Prop where
  g : mg x = some (.ref C)
  x : PySem.W.excIn K C [.type "ValueError", .type "Exception", .type "BaseException", .type "object"] "ValueError.__new__" = true
  k : PySem.W.keepIn K (.ref C) = true
  b : PySem.W.subIn K (.ref C) (.type "BaseException") = some true
  t : PySem.W.typeIn K (.ref C) = some (.type "type")
  m : PySem.W.exmOne K (.ref C) (.ref C) = some true
/-- where a def stands -/
def LkAt (K : PySem.W.Frag) (f : Addr) (fd : FuncData) : Prop := ∃ (oc : Value) (od : Option Addr) (osl : Array (Option Value)), K.lookup f = some ⟨oc, od, .func fd, osl⟩
theorem lk_fun {K : PySem.W.Frag} {x q : Str} {st : Stmt} {f : Addr} {fd : FuncData} (F : Fun K x q st f fd) : LkAt K f fd := by
  obtain ⟨oc, od, _, _, _, _, _, _, osl, _, lk, _⟩ := F.ex
  exact ⟨oc, od, osl, lk⟩
theorem lk_funD {K : PySem.W.Frag} {x q : Str} {pa : Arguments} {bd : List Stmt} {sc : Scope} {dvs : List V} {kws : List (Str × V)} {f : Addr} {fd : FuncData} (F : FunD K x q pa bd sc dvs kws f fd) : LkAt K f fd := by
  obtain ⟨oc, od, _, _, _, _, _, _, _, osl, _, lk, _⟩ := F.ex
  exact ⟨oc, od, osl, lk⟩
/-- a def that keeps its promise, by its name -/
structure Cl (P : Program) (w : World) (K : PySem.W.Frag) (mg : Str → Option Value) (base : Heap) (k : Nat) (x : Str) (ps : List Str) (sp : Sp) : Prop where
  ex : ∃ (f : Addr) (fd : FuncData), FnOk P w K mg base (L2.CX P w) k f fd ps sp ∧ mg x = some (.ref f) ∧ PySem.W.keepIn K (.ref f) = true ∧ Binds K fd ps [] ∧ LkAt K f fd
section
variable {P : Program} {w : World} {K : PySem.W.Frag} {mg : Str → Option Value} {base : Heap}
theorem DefAt.ok {x : Str} {st : Stmt} {N ps : List Str} {k : Nat} {sp : Sp} (D : DefAt K mg x st ps) (S : FnScope N ps (defScope st)) (len : ∀ vs H Q E, sp vs H Q E → vs.length = ps.length)
    (hbody : ∀ (f : Addr) (cdv : Value) (A : Around) (outer : List Env) (s : Shared) (H : Hp) (vs : List V) (Q : VK) (E : XK), Room k (A.deeper (envOfC x (defScope st) s.heap.objs.size f cdv)) → sp vs H Q E →
      ∃ t, PSs (cxOf (L2.CX P w) P w K mg base N x (defScope st) f cdv A outer s H E) (defBody st) t ∧ t { nx := fun _ H' => Q .non H', rt := Q } (start N vs) H) : Cl P w K mg base (k + 1) x ps sp := by
  obtain ⟨f, fd, hm, F, hb⟩ := D.ex
  exact ⟨f, fd, F.okX S len fun cdv A outer s H vs Q E hr h => hbody f cdv A outer s H vs Q E hr h, hm, F.kp, hb, lk_fun F⟩
theorem DefAtD.ok {x : Str} {st : Stmt} {N ps : List Str} {dvs : List V} {k : Nat} {sp : Sp} (D : DefAtD K mg x st ps dvs) (S : FnScope N ps (defScope st)) (len : ∀ vs H Q E, sp vs H Q E → vs.length = ps.length)
    (hbody : ∀ (f : Addr) (cdv : Value) (A : Around) (outer : List Env) (s : Shared) (H : Hp) (vs : List V) (Q : VK) (E : XK), Room k (A.deeper (envOfC x (defScope st) s.heap.objs.size f cdv)) → sp vs H Q E →
      ∃ t, PSs (cxOf (L2.CX P w) P w K mg base N x (defScope st) f cdv A outer s H E) (defBody st) t ∧ t { nx := fun _ H' => Q .non H', rt := Q } (start N vs) H) : Cl P w K mg base (k + 1) x ps sp := by
  obtain ⟨f, fd, hm, F, hb, _⟩ := D.ex
  exact ⟨f, fd, F.ok S len fun cdv A outer s H vs Q E hr h => hbody f cdv A outer s H vs Q E hr h, hm, F.kp, hb, lk_funD F⟩
/-- a promise that is never asked -/
theorem DefAt.never {x : Str} {st : Stmt} {ps : List Str} {k : Nat} {sp : Sp} (D : DefAt K mg x st ps) (h : ∀ vs H Q E, ¬ sp vs H Q E) : Cl P w K mg base k x ps sp := by
  obtain ⟨f, fd, hm, F, hb⟩ := D.ex
  exact ⟨f, fd, ⟨fun vs H Q E z => (h vs H Q E z).elim, fun A outer s H args us vs Q E _ _ _ _ z => (h vs H Q E z).elim⟩, hm, F.kp, hb, lk_fun F⟩
theorem Cl.mono {x : Str} {ps : List Str} {sp : Sp} {j k : Nat} (c : Cl P w K mg base j x ps sp) (h : j ≤ k) : Cl P w K mg base k x ps sp := by
  obtain ⟨f, fd, F, r⟩ := c.ex
  exact ⟨f, fd, F.mono h, r⟩
theorem Cl.imp {x : Str} {ps : List Str} {sp sp' : Sp} {k : Nat} (c : Cl P w K mg base k x ps sp) (h : ∀ vs H Q E, sp' vs H Q E → sp vs H Q E) : Cl P w K mg base k x ps sp' := by
  obtain ⟨f, fd, F, r⟩ := c.ex
  exact ⟨f, fd, F.imp h, r⟩
end
section
variable {X : Cx} {k j : Nat} {x : Str} {ps : List Str} {sp : Sp} {e : Expr} {es : List Expr} {t : TA} {p pos : Pos} {E : XK} {W : WX}
/-- f(..), which raises nothing here -/
theorem pcN (c : Cl X.prog X.w X.K X.mg X.base k x ps sp) (hr : Room j X.A) (hk : k ≤ j) (ha : PA X (e :: es) t) (hg : Gl X x := by rfl)
    (hdb : (x == ("__debug__" : Str)) = false := by decide) (he : starEach (e :: es) X.env = (false, eval e X.env) :: starEach es X.env := by rfl) (hpl : (backTo pos (starEach es X.env)).any (·.1) = false := by rfl) :
    PE X (.Call (.Name x p) (e :: es) [] pos) (tCall sp [] E0 t) := by
  obtain ⟨f, fd, F, hm, kp, b, _⟩ := c.ex
  exact pe_call F (hr.mono hk) hg hm kp b .nil passL ha hdb he hpl
/-- f(..), what it raises goes on to where the def's own errors go -/
theorem pcT (c : Cl X.prog X.w X.K X.mg X.base k x ps sp) (hr : Room j X.A) (hk : k ≤ j) (tk : Takes X fun cls d _ H => E cls d H) (ha : PA X (e :: es) t) (hg : Gl X x := by rfl)
    (hdb : (x == ("__debug__" : Str)) = false := by decide) (he : starEach (e :: es) X.env = (false, eval e X.env) :: starEach es X.env := by rfl) (hpl : (backTo pos (starEach es X.env)).any (·.1) = false := by rfl) :
    PE X (.Call (.Name x p) (e :: es) [] pos) (tCall sp [] E t) := by
  obtain ⟨f, fd, F, hm, kp, b, _⟩ := c.ex
  exact pe_call F (hr.mono hk) hg hm kp b .nil (passes_call tk fun _ _ _ _ h => h) ha hdb he hpl
/-- f(..) in a try's body -/
theorem pcS (c : Cl X.prog X.w X.K X.mg X.base k x ps sp) (hr : Room j X.A) (hk : k ≤ j) (tk : Takes X W) (ha : PA X (e :: es) t) (hg : Gl X x := by rfl)
    (hdb : (x == ("__debug__" : Str)) = false := by decide) (he : starEach (e :: es) X.env = (false, eval e X.env) :: starEach es X.env := by rfl) (hpl : (backTo pos (starEach es X.env)).any (·.1) = false := by rfl) :
    PE X (.Call (.Name x p) (e :: es) [] pos) (tCallS sp (WE W) t) := by
  obtain ⟨f, fd, F, hm, kp, b, _⟩ := c.ex
  exact pe_callS F (hr.mono hk) hg hm kp b (fun σ => passAt tk σ) ha hdb he hpl
end
/-! ### calls by names alone -/
theorem paired_snoc {α β : Type} {R : α → β → Prop} {x : α} {y : β} : ∀ {xs : List α} {ys : List β}, Paired R xs ys → R x y → Paired R (xs ++ [x]) (ys ++ [y])
  | _, _, .nil, h => .cons h .nil
  | _, _, .cons h t, g => .cons h (paired_snoc t g)
theorem paired_rev {α β : Type} {R : α → β → Prop} : ∀ {xs : List α} {ys : List β}, Paired R xs ys → Paired R xs.reverse ys.reverse
  | _, _, .nil => .nil
  | _, _, .cons h t => by
    rw [List.reverse_cons, List.reverse_cons]
    exact paired_snoc (paired_rev t) h
/-- all arguments by names, the last one first -/
structure KwAt (K : PySem.W.Frag) (mg : Str → Option Value) (x : Str) (ps ks : List Str) : Prop where
  ex : ∃ f : Addr, mg x = some (.ref f) ∧ ∀ fd, LkAt K f fd → ∀ (s : Shared) (ws : List Value), K.In s.heap → ws.length = ps.length → BindsTo s fd ⟨[], ks.zip ws⟩ (ps.zip ws.reverse)
def tKw (sp : Sp) (tk : TA) : TE := fun σ H Q => tk σ H fun zs H2 => sp zs.reverse H2 Q E0
section
variable {X : Cx} {k j : Nat} {x : Str} {ps ks : List Str} {sp : Sp} {kws : List Keyword} {tk : TA} {p pos : Pos}
theorem pkN (c : Cl X.prog X.w X.K X.mg X.base k x ps sp) (kw : KwAt X.K X.mg x ps ks) (hr : Room j X.A) (hk : k ≤ j) (hkw : PK X kws tk) (hg : Gl X x := by rfl) (hall : (backToKw pos (keywordEach kws X.env)).all (·.1.isSome) = true := by rfl)
    (hks : (backToKw pos (keywordEach kws X.env)).filterMap (·.1) = ks := by rfl) (hdb : (x == ("__debug__" : Str)) = false := by decide)
    (hpl : ((backTo pos (starEach [] X.env)).any (·.1) || (backToKw pos (keywordEach kws X.env)).any (·.1.isNone)) = false := by rfl) : PE X (.Call (.Name x p) [] kws pos) (tKw sp tk) := by
  obtain ⟨f, fd, F, hm, kp, b, lk⟩ := c.ex
  obtain ⟨f', hm', hkb⟩ := kw.ex
  have ef : f = f' := by
    rw [hm] at hm'
    cases hm'
    rfl
  subst ef
  refine ⟨fun pins s σ H Q I h => wpAny_Call_Name_kw (ld_glob I hg hm (PySem.W.callWith_KW0 (h₀ := X.base) I.ok.mod.kin kp hall (thn (hkw.run pos pins s σ H _ I h) fun ws s2 hh => ?_) hpl) hdb)⟩
  obtain ⟨zs, H2, I2, rz, q⟩ := hh
  have q : sp zs.reverse H2 Q E0 := q
  have rr : Vals zs.reverse ws.reverse := paired_rev rz
  have hl : ws.length = ps.length := by
    have h1 := F.len _ _ _ _ q
    have h2 := rr.length
    have h3 : ws.reverse.length = ws.length := by simp
    omega
  refine ⟨I2.kIn, ?_⟩
  rw [hks]
  refine wpAny_call (codeAny_mono (F.run X.A X.stack s2 H2 ⟨[], ks.zip ws⟩ ws.reverse zs.reverse Q E0 (hr.mono hk) I2.env0 (hkb fd lk s2 ws I2.kIn hl) rr q) fun rr s' hq => ?_)
  match rr, hq with
  | .error z, hq => exact passL pins σ H2 s2 z s' I2 hq
  | .ok (.ret u), hq => exact I2.after hq
  | .ok .next, hq => exact (show False from hq).elim
  | .ok .brk, hq => exact (show False from hq).elim
  | .ok .cont, hq => exact (show False from hq).elim
end
/-! ### kinds of values -/
theorem ty_int {K : PySem.W.Frag} {H : Hp} (i : Int) : TyX K H (.int i) (.type "int") := .base (.int i)
theorem ty_bl {K : PySem.W.Frag} {H : Hp} (i : Bool) : TyX K H (.bl i) (.type "bool") := .base (.bl i)
theorem ty_non {K : PySem.W.Frag} {H : Hp} : TyX K H .non (.type "NoneType") := .base .non
theorem ty_str {K : PySem.W.Frag} {H : Hp} (i : Str) : TyX K H (.str i) (.type "str") := .base (.str i)
theorem ty_l {K : PySem.W.Frag} {H : Hp} {a : Addr} {xs : List V} (h : SqL K H a xs) : TyX K H (.ref a) (.type "list") := by
  rcases h with (h | ⟨o, h⟩) | ⟨o, its, n, h1, h2, _⟩
  · exact .base (.lst h)
  · exact .base (.frz h)
  · exact .kList h1 h2
theorem ty_t {K : PySem.W.Frag} {H : Hp} {a : Addr} {xs : List V} (h : SqT K H a xs) : TyX K H (.ref a) (.type "tuple") := by
  rcases h with (h | ⟨o, h⟩) | ⟨o, its, n, h1, h2, _⟩
  · exact .base (.tup h)
  · exact .fTuple h
  · exact .kTuple h1 h2
theorem sqL_of {K : PySem.W.Frag} {H : Hp} {a : Addr} {xs : List V} (h : H a = some (.lst xs)) : SqL K H a xs := .inl (.inl h)
theorem sqT_of {K : PySem.W.Frag} {H : Hp} {a : Addr} {xs : List V} (h : H a = some (.tup xs)) : SqT K H a xs := .inl (.inl h)
theorem same_new {H : Hp} {p : Addr} {o : HO} (h : H p = none) : Same H (upd H p o) := fun b x e => by
  rw [upd_ne (ne_of_none e h)]
  exact e
theorem Same.seqT {K : PySem.W.Frag} {H H' : Hp} {a : Addr} {xs : List V} (e : Same H H') (h : SqT K H a xs) : SqT K H' a xs := by
  rcases h with (h | ⟨o, h⟩) | h
  · exact .inl (.inl (e _ _ h))
  · exact .inl (.inr ⟨o, e _ _ h⟩)
  · exact .inr h
/-- all but what stands at p is as it was -/
def But (p : Addr) (H H' : Hp) : Prop := ∀ b o, b ≠ p → H b = some o → H' b = some o
theorem But.refl (p : Addr) (H : Hp) : But p H H := fun _ _ _ h => h
theorem But.trans {p : Addr} {H H1 H2 : Hp} (a : But p H H1) (b : But p H1 H2) : But p H H2 := fun c o n h => b c o n (a c o n h)
theorem But.of {p : Addr} {H H' : Hp} (s : Same H H') : But p H H' := fun c o _ h => s c o h
theorem but_upd {p : Addr} {H : Hp} {o : HO} : But p H (upd H p o) := fun c u n h => by rw [upd_ne n]; exact h
theorem But.seqT {K : PySem.W.Frag} {H H' : Hp} {a p : Addr} {xs ys : List V} (e : But p H H') (hp : H p = some (.lst ys)) (h : SqT K H a xs) : SqT K H' a xs := by
  rcases h with (h | ⟨o, h⟩) | h
  · exact .inl (.inl (e _ _ (ne_of h hp (fun z => by cases z)) h))
  · exact .inl (.inr ⟨o, e _ _ (ne_of h hp (fun z => by cases z)) h⟩)
  · exact .inr h
theorem But.seqL {K : PySem.W.Frag} {H H' : Hp} {a p : Addr} {xs : List V} (e : But p H H') (n : a ≠ p) (h : SqL K H a xs) : SqL K H' a xs := by
  rcases h with (h | ⟨o, h⟩) | h
  · exact .inl (.inl (e _ _ n h))
  · exact .inl (.inr ⟨o, e _ _ n h⟩)
  · exact .inr h
theorem seqL_off {K : PySem.W.Frag} {H H1 H' : Hp} {a p : Addr} {xs : List V} (hS : SqL K H a xs) (np : H p = none) (s : Same H H1) (b : But p H1 H') : SqL K H' a xs := by
  have ne : ∀ o, H a = some o → a ≠ p := fun o h z => by rw [z, np] at h; cases h
  rcases hS with (h | ⟨o, h⟩) | h
  · exact .inl (.inl (b a _ (ne _ h) (s _ _ h)))
  · exact .inl (.inr ⟨o, b a _ (ne _ h) (s _ _ h)⟩)
  · exact .inr h
theorem ty_int_inv {K : PySem.W.Frag} {H : Hp} {v : V} (h : TyX K H v (.type "int")) : ∃ i, v = .int i := by
  generalize ht : Value.type "int" = t at h
  cases h with
  | base b => cases b <;> first | exact ⟨_, rfl⟩ | (exfalso; revert ht; simp)
  | _ => exfalso; revert ht; simp
theorem ty_int_val {K : PySem.W.Frag} {H : Hp} {i : Int} {n : String} (h : TyX K H (.int i) (.type n)) : n = "int" := by
  cases h with
  | base b => cases b; rfl
theorem ty_non_val {K : PySem.W.Frag} {H : Hp} {n : String} (h : TyX K H .non (.type n)) : n = "NoneType" := by
  cases h with
  | base b => cases b; rfl
/-- all that was tracked is there; lists may have changed -/
def Keep (H H' : Hp) : Prop := ∀ a o, H a = some o → H' a = some o ∨ ∃ xs ys, o = .lst xs ∧ H' a = some (.lst ys)
theorem Keep.refl (H : Hp) : Keep H H := fun _ _ h => .inl h
theorem Keep.of {H H' : Hp} (s : Same H H') : Keep H H' := fun a o h => .inl (s a o h)
theorem Keep.trans {H H1 H2 : Hp} (a : Keep H H1) (b : Keep H1 H2) : Keep H H2 := fun c o h => by
  rcases a c o h with e | ⟨xs, ys, rfl, e⟩
  · exact b c o e
  · rcases b c _ e with e2 | ⟨us, ws, _, e2⟩
    · exact .inr ⟨xs, ys, rfl, e2⟩
    · exact .inr ⟨xs, ws, rfl, e2⟩
theorem Keep.but {H H' : Hp} {p : Addr} {xs ys : List V} (b : But p H H') (h : H p = some (.lst xs)) (h' : H' p = some (.lst ys)) : Keep H H' := fun a o e => by
  by_cases n : a = p
  · subst n
    rw [h] at e
    cases e
    exact .inr ⟨xs, ys, rfl, h'⟩
  · exact .inl (b a o n e)
theorem Keep.upd {H : Hp} {p : Addr} {xs ys : List V} (h : H p = some (.lst xs)) : Keep H (upd H p (.lst ys)) := Keep.but but_upd h upd_same
theorem Keep.seqT {K : PySem.W.Frag} {H H' : Hp} {a : Addr} {xs : List V} (e : Keep H H') (h : SqT K H a xs) : SqT K H' a xs := by
  rcases h with (h | ⟨o, h⟩) | h
  · rcases e _ _ h with h | ⟨_, _, z, _⟩
    · exact .inl (.inl h)
    · cases z
  · rcases e _ _ h with h | ⟨_, _, z, _⟩
    · exact .inl (.inr ⟨o, h⟩)
    · cases z
  · exact .inr h
theorem Keep.ty {K : PySem.W.Frag} {H H' : Hp} {v : V} {n : String} (e : Keep H H') (h : TyX K H v (.type n)) : TyX K H' v (.type n) := by
  have k : ∀ {a : Addr} {o : HO}, H a = some o → (∀ xs, o ≠ .lst xs) → H' a = some o := fun h n => by
    rcases e _ _ h with h | ⟨xs, _, z, _⟩
    · exact h
    · exact absurd z (n xs)
  generalize ht : Value.type n = t at h
  cases h with
  | base b =>
    cases b with
    | non => exact .base .non
    | bl x => exact .base (.bl x)
    | int i => exact .base (.int i)
    | str x => exact .base (.str x)
    | flt x => exact .base (.flt x)
    | lst h =>
      rcases e _ _ h with h | ⟨_, _, _, h⟩
      · exact .base (.lst h)
      · exact .base (.lst h)
    | frz h => exact .base (.frz (k h fun _ z => by cases z))
    | tup h => exact .base (.tup (k h fun _ z => by cases z))
    | dK h => exact .base (.dK (k h fun _ z => by cases z))
    | dT h => exact .base (.dT (k h fun _ z => by cases z))
    | ins h => cases ht
  | byt b => exact .byt b
  | set h => exact .set (k h fun _ z => by cases z)
  | kList h c => exact .kList h c
  | kTuple h c => exact .kTuple h c
  | kDict h c => exact .kDict h c
  | fTuple h => exact .fTuple (k h fun _ z => by cases z)
  | fDict h => exact .fDict (k h fun _ z => by cases z)
theorem Keep.free {H H' : Hp} (e : Keep H H') {l : Addr} (h : H' l = none) : H l = none := by
  cases q : H l with
  | none => rfl
  | some o =>
    rcases e l o q with z | ⟨_, _, _, z⟩ <;> (rw [h] at z; cases z)
/-- the kinds of things that a law hands in -/
def kinds : List String := ["NoneType", "bool", "int", "str", "list", "tuple", "dict"]
theorem atI_neg1 {α : Type} {xs : List α} {v : α} (h : xs[xs.length - 1]? = some v) : atI xs (-1) = some v := by
  have hl : xs.length - 1 < xs.length := (List.getElem?_eq_some_iff.mp h).1
  unfold atI ixN
  rw [if_neg (by decide), if_pos (by omega)]
  show xs[((-1 : Int) + xs.length).toNat]? = some v
  rw [show ((-1 : Int) + xs.length).toNat = xs.length - 1 by omega]
  exact h
/-- an expression whose value is known: its ways are gone once -/
theorem val_go {te : TE} {σ : L2.St} {H : Hp} {Q : VK} (v : V) (h : ∀ Q : VK, Q v H → te σ H Q) (q : Q v H) : te σ H Q := h Q q
theorem val_goS {te : TE} {σ : L2.St} {H : Hp} {Q : VK} (v : V) (h : ∀ Q : VK, (∀ H', Same H H' → Q v H') → te σ H Q) (q : ∀ H', Same H H' → Q v H') : te σ H Q := h Q q
theorem val_goE {te : TE} {σ : L2.St} {H : Hp} {Q : VK} (Pr : V → Hp → Prop) (h : ∀ Q : VK, (∀ v H', Pr v H' → Q v H') → te σ H Q) (q : ∀ v H', Pr v H' → Q v H') : te σ H Q := h Q q
theorem tst_go {te : TT} {σ : L2.St} {H : Hp} {Q : Bool → Hp → Prop} (v : Bool) (h : ∀ Q : Bool → Hp → Prop, Q v H → te σ H Q) (q : Q v H) : te σ H Q := h Q q
/-- a node as a value -/
def nV (n : Nat) : V := .int n
/-! ### products of great ints -/
def CMulX (i j : Int) : Prop := i.natAbs.log2 + j.natAbs.log2 < 100000000
theorem CMulX.ok {i j : Int} (h : CMulX i j) : IntMulOk i j := by
  have b : ∀ x : Int, Builtin.Int.intBits x ≤ x.natAbs.log2 + 1 := fun x => by
    unfold Builtin.Int.intBits
    split <;> omega
  have h1 := b i
  have h2 := b j
  have h3 : i.natAbs.log2 + j.natAbs.log2 < 100000000 := h
  have e : bitsLine = 134217728 := by decide
  unfold IntMulOk
  intro z
  rw [Bool.and_eq_true] at z
  have z2 := z.2
  unfold Builtin.Int.intTooBig at z2
  have z3 := of_decide_eq_true z2
  rw [e] at z3
  omega
theorem op_mulX {X : Cx} : OpR X (binaryOp .Mult) (rI CMulX fun i j => .int (i * j)) := opI fun _ _ _ _ _ _ _ hc q => mul_int q hc.ok
theorem log2_le_of {m n : Nat} (h : m ≤ n) : m.log2 ≤ n.log2 := by
  by_cases h0 : m = 0
  · subst h0
    rw [show Nat.log2 0 = 0 by decide]
    exact Nat.zero_le _
  · exact (Nat.le_log2 (by omega)).mpr (Nat.le_trans (Nat.log2_self_le h0) h)
theorem log2_lt_of {m k : Nat} (h : m < 2 ^ k) (hk : 0 < k) : m.log2 < k := PySem.Flt.log2_lt_of hk h
theorem log2_add (a b : Nat) : (a + b).log2 ≤ max a.log2 b.log2 + 1 := by
  have h1 : a < 2 ^ (a.log2 + 1) := Nat.lt_log2_self
  have h2 : b < 2 ^ (b.log2 + 1) := Nat.lt_log2_self
  have m1 : 2 ^ (a.log2 + 1) ≤ 2 ^ (max a.log2 b.log2 + 1) := Nat.pow_le_pow_right (by decide) (by omega)
  have m2 : 2 ^ (b.log2 + 1) ≤ 2 ^ (max a.log2 b.log2 + 1) := Nat.pow_le_pow_right (by decide) (by omega)
  have h3 : a + b < 2 ^ (max a.log2 b.log2 + 2) := by
    rw [show max a.log2 b.log2 + 2 = (max a.log2 b.log2 + 1) + 1 from rfl, Nat.pow_succ]
    omega
  have := log2_lt_of h3 (by omega)
  omega
theorem log2_addI (a b : Int) : (a + b).natAbs.log2 ≤ max a.natAbs.log2 b.natAbs.log2 + 1 :=
  Nat.le_trans (log2_le_of (by omega)) (log2_add a.natAbs b.natAbs)
theorem bits_log2 {z : Int} {n : Nat} (h : Builtin.Int.intBits z ≤ n) : z.natAbs.log2 ≤ n := by
  unfold Builtin.Int.intBits at h
  split at h
  · rename_i e
    rw [show z.natAbs = 0 by simp_all]
    rw [show Nat.log2 0 = 0 by decide]
    exact Nat.zero_le _
  · omega
/-! ### cuts -/
theorem cut_to (xs : List V) (k : Nat) : cutV xs none (some (k : Int)) = xs.take k := by
  unfold cutV
  rw [HT.sIx_nat, HT.sIx_none, Nat.sub_zero, List.drop_zero]
  rcases Nat.le_total k xs.length with h | h
  · rw [Nat.min_eq_left h]
  · rw [Nat.min_eq_right h, List.take_length, List.take_of_length_le h]
theorem cut_from (xs : List V) (k : Nat) : cutV xs (some (k : Int)) none = xs.drop k := by
  unfold cutV
  rw [HT.sIx_nat, HT.sIx_none]
  rcases Nat.le_total k xs.length with h | h
  · rw [Nat.min_eq_left h, List.take_of_length_le (by rw [List.length_drop]; omega)]
  · rw [Nat.min_eq_right h, List.drop_length, List.drop_eq_nil_of_le h, List.take_nil]
theorem cut_mid (xs : List V) (j k : Nat) : cutV xs (some (j : Int)) (some (k : Int)) = (xs.take k).drop j := by
  unfold cutV
  rw [HT.sIx_nat, HT.sIx_nat]
  rcases Nat.le_total j xs.length with h | h
  · rw [Nat.min_eq_left h, List.drop_take]
    rcases Nat.le_total k xs.length with h' | h'
    · rw [Nat.min_eq_left h']
    · rw [Nat.min_eq_right h', List.take_of_length_le (by rw [List.length_drop]; omega), List.take_of_length_le (by rw [List.length_drop]; omega)]
  · rw [Nat.min_eq_right h, List.drop_length, List.take_nil, List.drop_eq_nil_of_le (by rw [List.length_take]; omega)]
/-! ### the feed: what a law draws from -/
structure FeedAt (H : Hp) (p : Addr) (n : Nat) : Prop where
  ex : ∃ x y c : Int, H p = some (.lst [.int x, .int y, .int c]) ∧ 0 ≤ x ∧ x.natAbs.log2 < 2000000 ∧ 0 ≤ y ∧ y < 10 ^ 40 ∧ 0 ≤ c ∧ c ≤ n
theorem FeedAt.mono {H : Hp} {p : Addr} {n m : Nat} (h : FeedAt H p n) (l : n ≤ m) : FeedAt H p m := by
  obtain ⟨x, y, c, h1, h2, h3, h4, h5, h6, h7⟩ := h.ex
  exact ⟨x, y, c, h1, h2, h3, h4, h5, h6, by omega⟩
theorem FeedAt.keep {H H' : Hp} {p : Addr} {n : Nat} (h : FeedAt H p n) (s : ∀ o, H p = some o → H' p = some o) : FeedAt H' p n := by
  obtain ⟨x, y, c, h1, h2⟩ := h.ex
  exact ⟨x, y, c, s _ h1, h2⟩
theorem FeedAt.ne {H : Hp} {p a : Addr} {n : Nat} (h : FeedAt H p n) (na : H a = none) : a ≠ p := by
  obtain ⟨x, y, c, h1, _⟩ := h.ex
  exact fun z => by rw [z, h1] at na; cases na
theorem FeedAt.new {H : Hp} {p a : Addr} {n : Nat} {o : HO} (h : FeedAt H p n) (na : H a = none) : FeedAt (upd H a o) p n := h.keep fun u e => same_new na _ _ e
theorem FeedAt.same {H H' : Hp} {p : Addr} {n : Nat} (h : FeedAt H p n) (s : Same H H') : FeedAt H' p n := h.keep fun u e => s _ _ e
theorem FeedAt.keeps {H H' : Hp} {p : Addr} {n m : Nat} (h : FeedAt H p n) (b : But p H H') (h' : FeedAt H' p m) : Keep H H' := by
  obtain ⟨x, y, c, h1, _⟩ := h.ex
  obtain ⟨x', y', c', h1', _⟩ := h'.ex
  exact Keep.but b h1 h1'
theorem FeedAt.lst {H : Hp} {p : Addr} {n : Nat} (h : FeedAt H p n) : ∃ ys, H p = some (.lst ys) := by
  obtain ⟨x, y, c, h1, h2⟩ := h.ex
  exact ⟨_, h1⟩
/-! ### an own error with a place: its __init__ calls MatchError.__init__, then keeps the place -/
structure PlErr (K : PySem.W.Frag) (mg : Str → Option Value) (x : Str) (C : Addr) (st : Stmt) : Prop where
  g : mg x = some (.ref C)
  o : OexC K C
  no : PySem.W.findIn K (.ref C) "place" = some none
  m : PySem.W.exmOne K (.ref C) (.ref C) = some true
  xf : XfC K C
  par : ∃ M : Addr, mg "MatchError" = some (.ref M) ∧ PySem.W.specialIn K (.ref M) "__getattribute__" = some (some (.builtin "type.__getattribute__")) ∧ PySem.W.readsIn K M (.type "type") = true ∧
    PySem.W.findCls K (.ref M) (.type "type") "__init__" = some (.val (.builtin "ValueError.__init__"))
  fn : ∃ (fI : Addr) (fd : FuncData), PySem.W.findIn K (.ref C) "__init__" = some (some (.ref fI)) ∧ PySem.W.typeIn K (.ref fI) = some (.type "function") ∧ Fun K "__init__" (x ++ ".__init__") st fI fd ∧ Binds K fd ["self", "place"] []
section
variable {X : Cx} {o e : Expr} {es : List Expr} {to te : TE} {ta : TA} {p p' p1 p2 pos : Pos} {xM : Str} {M : Addr}
theorem pe_mcinit {pl : Sem Bool} (hg : Gl X xM) (hm : X.mg xM = some (.ref M)) (ga : PySem.W.specialIn X.K (.ref M) "__getattribute__" = some (some (.builtin "type.__getattribute__"))) (rd : PySem.W.readsIn X.K M (.type "type") = true)
    (vV : PySem.W.findCls X.K (.ref M) (.type "type") "__init__" = some (.val (.builtin "ValueError.__init__"))) (ha : PA X (e :: es) ta) (hdb : (xM == ("__debug__" : Str)) = false := by decide)
    (hc : eval (.Call (.Attribute (.Name xM p1) "__init__" p2) (e :: es) [] pos) X.env = (do
      let ov ← eval (.Name xM p1) X.env
      standAt p2.atName
      let (f, first) ← holding [ov] (getMethod ov "__init__" pl)
      callWith pos f first (backTo pos (starEach (e :: es) X.env)) (backToKw pos (keywordEach [] X.env))) := by rfl)
    (he : starEach (e :: es) X.env = (false, eval e X.env) :: starEach es X.env := by rfl) (hpl : (backTo pos (starEach es X.env)).any (·.1) = false := by rfl) :
    PE X (.Call (.Attribute (.Name xM p1) "__init__" p2) (e :: es) [] pos) (tVeI X.K ta) := by
  refine ⟨fun pins s σ H Q I h => ?_⟩
  refine PySem.W.methodCall_KW (ld_glob I hg hm ?_ hdb) hc
  refine PySem.W.method_cls I.kIn ga (PySem.W.cls_value I.kIn rd vV rfl ?_)
  show wpAny _ _ (callWith pos (Value.builtin "ValueError.__init__") [] (backTo pos (starEach (e :: es) X.env)) []) _ _ _
  refine PyProof.Rows.callWith_method1 (thn (ha.run pos pins _ σ H _ (I.tok _) h) fun us s1 ⟨vs, H1, I1, r1, a, C, ws, ev, hl, T, ea, q⟩ => ?_) he hpl
  subst ev
  cases r1 with
  | @cons _ u0 _ ur ra rw' =>
    obtain rfl : u0 = Value.ref a := ra
    have hlen : ur.length ≤ sizeLine := by
      rw [← Paired.length rw', sizeLine_eq]
      omega
    exact oinit_ok T I1 ea hlen fun s' J => ⟨.non, H1, J, rfl, q⟩
end
/-- what such an __init__ does -/
def spPl (C : Addr) : Sp := fun vs H Q _ => ∃ (a : Addr) (v : V), vs = [.ref a, v] ∧ H a = some (exo a C none) ∧ ∀ dx, H dx = none → dx ≠ a → Q .non (upd (upd H dx (exd dx [("place", v)])) a (exo a C (some dx)))
/-- X(e) -/
def tMkPl (C : Addr) (ta : TA) : L2.St → Hp → XK → Prop := fun σ H Q => ta σ H fun vs H1 => ∃ v, vs = [v] ∧ ∀ d, H1 d = none → Q (.ref C) (some d) (upd H1 d (.xd [("place", v)]))
/-- its __init__ keeps its promise -/
structure PlOk (P : Program) (w : World) (K : PySem.W.Frag) (mg : Str → Option Value) (base : Heap) (x : Str) (C : Addr) : Prop where
  ex : ∃ (fI : Addr) (fd : FuncData), PySem.W.findIn K (.ref C) "__init__" = some (some (.ref fI)) ∧ PySem.W.typeIn K (.ref fI) = some (.type "function") ∧ FnOk P w K mg base (L2.CX P w) 1 fI fd ["self", "place"] (spPl C) ∧ Binds K fd ["self", "place"] []
  g : mg x = some (.ref C)
  o : OexC K C
section
variable {X : Cx} {e : Expr} {ta : TA} {p pos : Pos} {x : Str} {C : Addr}
theorem pmk_pl (B : PlOk X.prog X.w X.K X.mg X.base x C) (hr : Room 2 X.A) (ha : PA X [e] ta) (hg : Gl X x := by rfl)
    (hdb : (x == ("__debug__" : Str)) = false := by decide) (he : starEach (e :: []) X.env = (false, eval e X.env) :: starEach [] X.env := by rfl) (hpl : (backTo pos (starEach [] X.env)).any (·.1) = false := by rfl) :
    PMk X (.Call (.Name x p) (e :: []) [] pos) (tMkPl C ta) := by
  obtain ⟨fI, fd, iC, tI, F, hb⟩ := B.ex
  have ha' : PA X [e] (fun σ H Q => ∃ R : List V → Hp → Prop, ta σ H R ∧ ∀ vs H1, R vs H1 → Q vs H1) := ⟨fun ps pins s σ H Q I h => by
    obtain ⟨R, h1, h2⟩ := h
    exact thn (ha.run ps pins s σ H R I h1) fun us s1 ⟨vs, H1, I1, r1, q⟩ => ⟨vs, H1, I1, r1, h2 vs H1 q⟩⟩
  have key := pmk_oex (p := p) (pos := pos) (e := e) (es := []) B.o iC tI F hr hb .nil passL hg B.g ha' hdb he hpl
  intro pins s σ H Q I h
  refine key pins s σ H Q I ⟨_, h, fun vs H1 hh => ?_⟩
  obtain ⟨v, rfl, q⟩ := hh
  refine ⟨by show 1 ≤ 1000; decide, fun a na => ⟨a, v, rfl, upd_same, fun dx nd ne => ⟨rfl, dx, [("place", v)], upd_same, ?_, ?_, ?_⟩⟩⟩
  · rw [upd_ne ne, upd_same]
  · rwa [upd_ne ne] at nd
  · have nd1 : H1 dx = none := by rwa [upd_ne ne] at nd
    have e : upd (del (upd (upd (upd H1 a (exo a C none)) dx (exd dx [("place", v)])) a (exo a C (some dx))) a) dx (.xd [("place", v)]) = upd H1 dx (.xd [("place", v)]) := by
      funext b
      by_cases h1 : b = dx
      · subst h1
        rw [upd_same, upd_same]
      · rw [upd_ne h1, upd_ne h1]
        by_cases h2 : b = a
        · subst h2
          rw [del_same, na]
        · rw [del_ne h2, upd_ne h2, upd_ne h1, upd_ne h2]
    rw [e]
    exact q dx nd1
end
/-! ### own classes -/
/-- a class of the top and its attributes -/
structure ClsAt (K : PySem.W.Frag) (mg : Str → Option Value) (x : Str) (C : Addr) (as : List Str) : Prop where
  g : mg x = some (.ref C)
  cl : Cls K C
  makes : PySem.W.makesIn K C = true
  kp : PySem.W.keepIn K (.ref C) = true
  no : ∀ f ∈ as, NoAttr K C f
/-- without an own __init__ -/
def BareAt (K : PySem.W.Frag) (C : Addr) : Prop := PySem.W.findIn K (.ref C) "__init__" = some (some (.builtin "object.__init__"))
/-- a method of a class -/
structure MethAt (K : PySem.W.Frag) (C : Addr) (m q : Str) (st : Stmt) (ps : List Str) : Prop where
  ex : ∃ (f : Addr) (fd : FuncData), PySem.W.findIn K (.ref C) m = some (some (.ref f)) ∧ PySem.W.isFn K (.ref f) = true ∧ Fun K m q st f fd ∧ Binds K fd ps []
/-- a method that keeps its promise -/
structure Mc (P : Program) (w : World) (K : PySem.W.Frag) (mg : Str → Option Value) (base : Heap) (k : Nat) (C : Addr) (m : Str) (ps : List Str) (sp : Sp) : Prop where
  ex : ∃ (f : Addr) (fd : FuncData), FnOk P w K mg base (L2.CX P w) k f fd ps sp ∧ Meth K C m f ∧ Binds K fd ps []
section
variable {P : Program} {w : World} {K : PySem.W.Frag} {mg : Str → Option Value} {base : Heap}
theorem MethAt.ok {C : Addr} {m q : Str} {st : Stmt} {N ps : List Str} {k : Nat} {sp : Sp} (D : MethAt K C m q st ps) (S : FnScope N ps (defScope st)) (len : ∀ vs H Q E, sp vs H Q E → vs.length = ps.length)
    (hbody : ∀ (f : Addr) (cdv : Value) (A : Around) (outer : List Env) (s : Shared) (H : Hp) (vs : List V) (Q : VK) (E : XK), Room k (A.deeper (envOfC q (defScope st) s.heap.objs.size f cdv)) → sp vs H Q E →
      ∃ t, PSs (cxOf (L2.CX P w) P w K mg base N q (defScope st) f cdv A outer s H E) (defBody st) t ∧ t { nx := fun _ H' => Q .non H', rt := Q } (start N vs) H) : Mc P w K mg base (k + 1) C m ps sp := by
  obtain ⟨f, fd, hf, fn, F, hb⟩ := D.ex
  exact ⟨f, fd, F.okX S len fun cdv A outer s H vs Q E hr h => hbody f cdv A outer s H vs Q E hr h, ⟨hf, fn, F.kp⟩, hb⟩
theorem Mc.imp {C : Addr} {m : Str} {ps : List Str} {sp sp' : Sp} {k : Nat} (c : Mc P w K mg base k C m ps sp) (h : ∀ vs H Q E, sp' vs H Q E → sp vs H Q E) : Mc P w K mg base k C m ps sp' := by
  obtain ⟨f, fd, F, r⟩ := c.ex
  exact ⟨f, fd, F.imp h, r⟩
end
/-- C() without an own __init__ -/
def tBare (C : Addr) : TE := fun _ H Q => ∀ x dx, H x = none → H dx = none → dx ≠ x → Q (.ref x) (upd (upd H dx (.own x)) x (.ins C dx []))
section
variable {X : Cx} {k j : Nat} {x m : Str} {C : Addr} {ps as : List Str} {sp : Sp} {e o : Expr} {es : List Expr} {t : TA} {ta : TE} {p pos apos : Pos}
/-- C(..) -/
theorem pkN' (c : Mc X.prog X.w X.K X.mg X.base k C "__init__" ps sp) (cl : ClsAt X.K X.mg x C as) (hr : Room j X.A) (hk : k + 1 ≤ j) (ha : PA X (e :: es) t) (hg : Gl X x := by rfl)
    (hdb : (x == ("__debug__" : Str)) = false := by decide) (he : starEach (e :: es) X.env = (false, eval e X.env) :: starEach es X.env := by rfl) (hpl : (backTo pos (starEach es X.env)).any (·.1) = false := by rfl) :
    PE X (.Call (.Name x p) (e :: es) [] pos) (tMake C sp [] E0 t) := by
  obtain ⟨f, fd, F, M, b⟩ := c.ex
  exact pe_make ⟨cl.makes, M.at_, M.fn, cl.kp⟩ F (hr.mono hk) hg cl.g b .nil passL ha hdb he hpl
/-- o.m(..) -/
theorem pmN (c : Mc X.prog X.w X.K X.mg X.base k C m ps sp) (cl : Cls X.K C) (hr : Room j X.A) (hk : k ≤ j) {pl : Sem Bool} (he : PE X o ta) (ha : PA X (e :: es) t)
    (hst : starEach (e :: es) X.env = (false, eval e X.env) :: starEach es X.env := by rfl) (hpl : (backTo pos (starEach es X.env)).any (·.1) = false := by rfl)
    (ht : eval (.Call (.Attribute o m apos) (e :: es) [] pos) X.env = (do
      let ov ← eval o X.env
      standAt apos.atName
      let (f, first) ← holding [ov] (getMethod ov m pl)
      callWith pos f first (backTo pos (starEach (e :: es) X.env)) (backToKw pos (keywordEach [] X.env))) := by rfl) :
    PE X (.Call (.Attribute o m apos) (e :: es) [] pos) (tMeth C m sp [] E0 ta t) := by
  obtain ⟨f, fd, F, M, b⟩ := c.ex
  exact pe_meth he cl M F (hr.mono hk) b .nil passL ha hst hpl ht
theorem pbare (cl : ClsAt X.K X.mg x C as) (hi : BareAt X.K C) (hg : Gl X x := by rfl) (hdb : (x == ("__debug__" : Str)) = false := by decide) : PE X (.Call (.Name x p) [] [] pos) (tBare C) := by
  refine ⟨fun pins s σ H Q I h => ?_⟩
  refine wpAny_Call_Name_kw (ld_glob I hg cl.g ?_ hdb)
  refine PySem.W.callWith_K0 I.kIn cl.kp ?_
  have hq := h (s.heap.objs.size + 1) s.heap.objs.size (I.hok.fresh (Nat.le_succ _)) (I.hok.fresh (Nat.le_refl _)) (Nat.ne_of_lt (Nat.lt_succ_self _))
  have I2 := Inv.made (C := C) I
  show wpAny _ _ (call (.ref C) []) _ _ _
  have Y := PySem.W.makes_of (M := model X.prog X.w) I.kIn cl.makes
  refine wpAny_call (make_map0 I.kIn cl.makes hi (fun self => PySem.W.Looks.of_pure (PySem.W.oi_bind self)) ?_)
  have hx : ((s.heap.push PySem.W.emptyDict).push (PySem.W.instObj C s.heap.objs.size)).get? (s.heap.objs.size + 1) = some (PySem.W.instObj C s.heap.objs.size) := by heap_get
  have t1 : PySem.W.Looks (model X.prog X.w) ((s.heap.push PySem.W.emptyDict).push (PySem.W.instObj C s.heap.objs.size)) (typeOf (.ref (s.heap.objs.size + 1))) (.ref C) := (PySem.W.Looks.ld hx).andThen .now
  have t2 : PySem.W.Looks (model X.prog X.w) ((s.heap.push PySem.W.emptyDict).push (PySem.W.instObj C s.heap.objs.size)) (isInstance (.ref (s.heap.objs.size + 1)) (.type "object")) true := t1.andThen (Y.top.keeps fun b o e => Heap.get?_push_of_some _ (Heap.get?_push_of_some _ e))
  refine codeAny_call_builtin PySem.W.oi_plain PySem.W.entry_oi (@PySem.W.check_slot (model X.prog X.w) _ _ _ "object.__init__" "object" "__init__" (.ref (s.heap.objs.size + 1)) [] [] _ PySem.W.oi_kind PySem.W.oi_split t2 (PySem.W.oi_args (.ref (s.heap.objs.size + 1))) ?_)
  rw [PySem.W.oi_run]
  exact wpAny_pure (And.intro rfl ⟨V.ref (s.heap.objs.size + 1), _, I2, rfl, hq⟩)
end
/-! ### xs[a:c] = ys of another list -/
def sSetSl (to tl th tv : TE) : TS := fun D σ H => tv σ H fun v H1 => to σ H1 fun x H2 => tl σ H2 fun i H3 => ∃ a, i = .int a ∧ th σ H3 fun j H4 => ∃ (c : Int) (l b : Addr) (xs ys : List V), j = .int c ∧ x = .ref l ∧ v = .ref b ∧
  H4 l = some (.lst xs) ∧ H4 b = some (.lst ys) ∧ l ≠ b ∧ 0 ≤ a ∧ a ≤ c ∧ c ≤ xs.length ∧ xs.length + ys.length ≤ sizeLine ∧ D.nx σ (upd H4 l (.lst (xs.take a.toNat ++ ys ++ xs.drop c.toNat)))
theorem ps_setSl {X : Cx} {o lo hi value : Expr} {to tl th tv : TE} {p2 pos' pos : Pos} (hv : PE X value tv) (ho : PE X o to) (hl : PE X lo tl) (hu : PE X hi th)
    (hs : swapsWith value (some (.Subscript o (.Slice (some lo) (some hi) none p2) pos')) pos.line X.env = pure false := by rfl) : PS X (.Assign [.Subscript o (.Slice (some lo) (some hi) none p2) pos'] value pos) (sSetSl to tl th tv) := by
  refine ⟨fun pins s σ H D I h => ?_⟩
  refine wpAny_Assign_Subscript (thn (hv.run pins s σ H _ I h) fun r s1 ⟨v, H1, I1, rv, q1⟩ => thn (ho.run pins s1 σ H1 _ I1 q1) fun u s2 ⟨x, H2, I2, rx, q2⟩ => ?_) hs
  refine wpAny_Slice ?_
  rw [evalPart_some]
  refine thn (hl.run pins s2 σ H2 _ I2 q2) fun vl s3 ⟨i, H3, I3, pl, a, ei, q3⟩ => ?_
  rw [evalPart_some]
  refine thn (hu.run pins s3 σ H3 _ I3 q3) fun vu s4 ⟨j, H4, I4, pu, q4⟩ => ?_
  rw [evalPart_none]
  refine wpAny_pure ?_
  obtain ⟨c, l, b, xs, ys, ej, ex, ev, hH, hB, hne, h0, hac, hc, hz, q⟩ := q4
  subst ei
  subst ej
  subst ex
  subst ev
  have I5 : Inv X pins σ H4 { s4 with heap := s4.heap.push { cls := .type "slice", data := .fields #[vl, vu, .none] } } := I4.kept (t' := s4.toks) fun b ob q => Heap.get?_push_of_some _ q
  obtain rfl : u = Value.ref l := rx
  obtain rfl : r = Value.ref b := rv
  exact set_slice I5 hH hB hne (Heap.IsSliceOf.new ..) pl pu h0 hac hc hz fun s' I' => ⟨σ, _, I', q⟩
/-! ### the top's facts out of the written part -/
section
variable {P : Program} {w : World} {K : PySem.W.Frag} {mg : Str → Option Value} {base : Heap} {h : Heap} {f : Addr} {st : Stmt} {ps : List Str} {x : Str}
theorem defAt_mk {oc : Value} {od an : Option Addr} {osl : Array (Option Value)} {kV doc pm cdv ct : Value} (X : K.In h) (G : h.Ns mainGlobals mg) (a : PySem.W.nsIn K mainGlobals x = some (some (.ref f)))
    (l : K.lookup f = some ⟨oc, od, .func (PySem.W.fnOf x x (defArgs st) (defBody st) (defScope st) .none kV doc pm an cdv ct), osl⟩) (c : PySem.W.codeIn K cdv x = true) (k : PySem.W.keepIn K (.ref f) = true)
    (hb : ∀ (kV doc pm : Value) (an : Option Addr) (cdv ct : Value) (us : List Value), us.length = ps.length → bindArgs (PySem.W.fnOf x x (defArgs st) (defBody st) (defScope st) .none kV doc pm an cdv ct) ⟨us, []⟩ = pure (ps.zip us)) : DefAt K mg x st ps := by
  have F := fun_mk (st := st) l c k
  exact ⟨f, _, PySem.W.mg_of X G a, F, F.binds hb⟩
theorem defAtD_mk {oc oc' : Value} {od an od' : Option Addr} {osl osl' : Array (Option Value)} {kV doc pm cdv ct : Value} {T : Addr} {its : List Value} {nT : Nat} {dvs : List V} (n : Nat) (hd : dvs ≠ []) (hl : n + dvs.length = ps.length) (X : K.In h) (G : h.Ns mainGlobals mg) (a : PySem.W.nsIn K mainGlobals x = some (some (.ref f)))
    (l : K.lookup f = some ⟨oc, od, .func (PySem.W.fnOf x x (defArgs st) (defBody st) (defScope st) (.ref T) kV doc pm an cdv ct), osl⟩) (c : PySem.W.codeIn K cdv x = true) (k : PySem.W.keepIn K (.ref f) = true)
    (lT : K.lookup T = some ⟨oc', od', .seq its.toArray nT, osl'⟩) (hv : Vals dvs its)
    (hb : ∀ (j : Nat), (j = 0 ∨ j = dvs.length) → ∀ (T : Addr) (kV doc pm : Value) (an : Option Addr) (cdv ct : Value) (us its : List Value), us.length + (dvs.length - j) = ps.length → its.length = dvs.length →
      ∃ k, bindArgs (PySem.W.fnOf x x (defArgs st) (defBody st) (defScope st) (.ref T) kV doc pm an cdv ct) ⟨us, []⟩ = seqItems? (.ref T) >>= k ∧ k (some its.toArray) = pure (ps.zip (us ++ its.drop j))) : DefAtD K mg x st ps dvs := by
  have F : FunD K x x (defArgs st) (defBody st) (defScope st) dvs [] f _ := ⟨⟨oc, od, .ref T, kV, doc, pm, an, cdv, ct, osl, rfl, l, c, .inr ⟨hd, T, _, its, nT, rfl, lT, rfl, hv⟩, .inl rfl⟩, k⟩
  refine ⟨f, _, PySem.W.mg_of X G a, F, ?_, ?_⟩
  · obtain ⟨ds, v, b⟩ := F.binds1 ps.length dvs.length hd (by omega) fun T kV doc pm an cdv ct us its h1 h2 => hb dvs.length (.inr rfl) T kV doc pm an cdv ct us its (by omega) h2
    rw [List.drop_length] at v
    cases v
    exact b
  · obtain ⟨ds, v, b⟩ := F.binds1 n 0 hd (by omega) fun T kV doc pm an cdv ct us its h1 h2 => hb 0 (.inl rfl) T kV doc pm an cdv ct us its (by omega) h2
    exact ⟨ds, v, b⟩
/-- an error of the class at S is what «except S» names -/
theorem exm_self {S : Addr} (h1 : PySem.W.subIn K (.ref S) (.type "BaseException") = some true) (h2 : PySem.W.isClsIn K S = true) (h3 : PySem.W.typeIn K (.ref S) = some (.type "type")) (h4 : PySem.W.subIn K (.ref S) (.ref S) = some true) :
    PySem.W.exmOne K (.ref S) (.ref S) = some true := by
  have e1 : (PySem.W.subIn K (.ref S) (.type "BaseException") == some true) = true := by rw [h1] <;> rfl
  have e2 : ((PySem.W.clsIn K S).isSome && PySem.W.typeIn K (.ref S) == some (.type "type")) = true := by
    have h2' : (PySem.W.clsIn K S).isSome = true := h2
    rw [h2', h3] <;> rfl
  show (if (PySem.W.subIn K (.ref S) (.type "BaseException") == some true) = true then (if ((PySem.W.clsIn K S).isSome && PySem.W.typeIn K (.ref S) == some (.type "type")) = true then PySem.W.subIn K (.ref S) (.ref S) else none) else none) = some true
  rw [if_pos e1, if_pos e2]
  exact h4
theorem exm_no {A S : Addr} {b : Bool} (h1 : PySem.W.subIn K (.ref S) (.type "BaseException") = some true) (h2 : PySem.W.isClsIn K S = true) (h3 : PySem.W.typeIn K (.ref S) = some (.type "type")) (h4 : PySem.W.subIn K (.ref A) (.ref S) = some b) :
    PySem.W.exmOne K (.ref A) (.ref S) = some b := by
  have e1 : (PySem.W.subIn K (.ref S) (.type "BaseException") == some true) = true := by rw [h1] <;> rfl
  have e2 : ((PySem.W.clsIn K S).isSome && PySem.W.typeIn K (.ref S) == some (.type "type")) = true := by
    have h2' : (PySem.W.clsIn K S).isSome = true := h2
    rw [h2', h3] <;> rfl
  show (if (PySem.W.subIn K (.ref S) (.type "BaseException") == some true) = true then (if ((PySem.W.clsIn K S).isSome && PySem.W.typeIn K (.ref S) == some (.type "type")) = true then PySem.W.subIn K (.ref A) (.ref S) else none) else none) = some b
  rw [if_pos e1, if_pos e2]
  exact h4
theorem excAt_mk {S : Addr} (X : K.In h) (G : h.Ns mainGlobals mg) (a : PySem.W.nsIn K mainGlobals x = some (some (.ref S))) (q : PySem.W.excIn K S [.type "ValueError", .type "Exception", .type "BaseException", .type "object"] "ValueError.__new__" = true) (k : PySem.W.keepIn K (.ref S) = true)
    (b : PySem.W.subIn K (.ref S) (.type "BaseException") = some true) (t : PySem.W.typeIn K (.ref S) = some (.type "type")) (i : PySem.W.isClsIn K S = true) (s : PySem.W.subIn K (.ref S) (.ref S) = some true) : ExcAt K mg x S :=
  ⟨PySem.W.mg_of X G a, q, k, b, t, exm_self b i t s⟩
theorem plErr_mk {C M fI N : Addr} {nm q : Str} {bs bm : List Value} {sn : List Str} {sub : List Value} {ab : Bool} {col : Option Bool} {dd : Option Addr} {k0 k1 k2 k3 k5 : Option Value} {oc : Value} {od an : Option Addr} {osl : Array (Option Value)} {kV doc pm cdv ct : Value} (X : K.In h) (G : h.Ns mainGlobals mg)
    (a : PySem.W.nsIn K mainGlobals x = some (some (.ref C))) (l : K.lookup C = some (excClassObj nm q C N bs bm true sn sub ab col dd k0 k1 k2 k3 k5 "ValueError.__new__")) (hb : PySem.HandSPX.refsVE bm = true) (sa : PySem.W.findIn K (.ref C) "__setattr__" = some (some (.builtin "object.__setattr__")))
    (ex : PySem.W.subIn K (.ref C) (.type "BaseException") = some true) (ty : PySem.W.typeIn K (.ref C) = some (.type "type")) (k : PySem.W.keepIn K (.ref C) = true) (no : PySem.W.findIn K (.ref C) "place" = some none) (ic : PySem.W.isClsIn K C = true) (sb : PySem.W.subIn K (.ref C) (.ref C) = some true)
    (ga : PySem.W.findIn K (.ref C) "__getattribute__" = some (some (.builtin "BaseException.__getattribute__"))) (gg : PySem.W.findIn K (.ref C) "__getattr__" = some none) (hd : PySem.W.hasDictIn K C = true)
    (gm : PySem.W.nsIn K mainGlobals "MatchError" = some (some (.ref M))) (sm : PySem.W.specialIn K (.ref M) "__getattribute__" = some (some (.builtin "type.__getattribute__"))) (rd : PySem.W.readsIn K M (.type "type") = true)
    (fc : PySem.W.findCls K (.ref M) (.type "type") "__init__" = some (.val (.builtin "ValueError.__init__"))) (ii : PySem.W.findIn K (.ref C) "__init__" = some (some (.ref fI))) (ti : PySem.W.typeIn K (.ref fI) = some (.type "function"))
    (li : K.lookup fI = some ⟨oc, od, .func (PySem.W.fnOf "__init__" (x ++ ".__init__") (defArgs st) (defBody st) (defScope st) .none kV doc pm an cdv ct), osl⟩) (ci : PySem.W.codeIn K cdv (x ++ ".__init__") = true) (ki : PySem.W.keepIn K (.ref fI) = true)
    (hbi : ∀ (kV doc pm : Value) (an : Option Addr) (cdv ct : Value) (us : List Value), us.length = (["self", "place"] : List Str).length → bindArgs (PySem.W.fnOf "__init__" (x ++ ".__init__") (defArgs st) (defBody st) (defScope st) .none kV doc pm an cdv ct) ⟨us, []⟩ = pure ((["self", "place"] : List Str).zip us)) : PlErr K mg x C st := by
  have F := fun_mk (st := st) li ci ki
  exact ⟨PySem.W.mg_of X G a, ⟨⟨nm, q, N, bs, bm, sn, sub, ab, col, dd, k0, k1, k2, k3, k5, l, hb⟩, sa, ex, ty, k⟩, no, exm_self ex ic ty sb, ⟨ga, gg, ex, hd⟩, ⟨M, PySem.W.mg_of X G gm, sm, rd, fc⟩, ⟨fI, _, ii, ti, F, F.binds hbi⟩⟩
theorem clsAt_mk {C : Addr} {as : List Str} (X : K.In h) (G : h.Ns mainGlobals mg) (a : PySem.W.nsIn K mainGlobals x = some (some (.ref C))) (pg : PySem.W.plainGet K C Str.empty = true) (hd : PySem.W.hasDictIn K C = true) (po : PySem.W.plainOver K C = true)
    (sa : PySem.W.findIn K (.ref C) "__setattr__" = some (some (.builtin "object.__setattr__"))) (mk : PySem.W.makesIn K C = true) (kc : PySem.W.keepIn K (.ref C) = true) (no : ∀ f ∈ as, NoAttr K C f) : ClsAt K mg x C as :=
  ⟨PySem.W.mg_of X G a, ⟨pg, hd, po, sa⟩, mk, kc, no⟩
theorem bareAt_mk {C : Addr} (h : PySem.W.findIn K (.ref C) "__init__" = some (some (.builtin "object.__init__"))) : BareAt K C := h
theorem no_nil {C : Addr} : ∀ f ∈ ([] : List Str), NoAttr K C f := fun f h => by cases h
theorem no_cons {C : Addr} {f : Str} {as : List Str} (n : PySem.W.findIn K (.ref C) f = some none) (h : ∀ g ∈ as, NoAttr K C g) : ∀ g ∈ (f :: as), NoAttr K C g := fun g hg => by
  rcases List.mem_cons.mp hg with e | e
  · rw [e]
    exact n
  · exact h g e
theorem methAt_mk {C f : Addr} {m q : Str} {oc : Value} {od an : Option Addr} {osl : Array (Option Value)} {kV doc pm cdv ct : Value} (a : PySem.W.findIn K (.ref C) m = some (some (.ref f))) (i : PySem.W.isFn K (.ref f) = true)
    (l : K.lookup f = some ⟨oc, od, .func (PySem.W.fnOf m q (defArgs st) (defBody st) (defScope st) .none kV doc pm an cdv ct), osl⟩) (c : PySem.W.codeIn K cdv q = true) (k : PySem.W.keepIn K (.ref f) = true)
    (hb : ∀ (kV doc pm : Value) (an : Option Addr) (cdv ct : Value) (us : List Value), us.length = ps.length → bindArgs (PySem.W.fnOf m q (defArgs st) (defBody st) (defScope st) .none kV doc pm an cdv ct) ⟨us, []⟩ = pure (ps.zip us)) : MethAt K C m q st ps := by
  have F := fun_mk (st := st) l c k
  exact ⟨f, _, a, i, F, F.binds hb⟩
theorem kwAt_mk {oc : Value} {od an : Option Addr} {osl : Array (Option Value)} {kV doc pm cdv ct : Value} {ks : List Str} (X : K.In h) (G : h.Ns mainGlobals mg) (a : PySem.W.nsIn K mainGlobals x = some (some (.ref f)))
    (l : K.lookup f = some ⟨oc, od, .func (PySem.W.fnOf x x (defArgs st) (defBody st) (defScope st) .none kV doc pm an cdv ct), osl⟩)
    (hb : ∀ (kV doc pm : Value) (an : Option Addr) (cdv ct : Value) (ws : List Value), ws.length = ps.length → bindArgs (PySem.W.fnOf x x (defArgs st) (defBody st) (defScope st) .none kV doc pm an cdv ct) ⟨[], ks.zip ws⟩ = pure (ps.zip ws.reverse)) : KwAt K mg x ps ks :=
  ⟨f, PySem.W.mg_of X G a, fun fd lk s ws _ hl => by
    obtain ⟨oc', od', osl', lk⟩ := lk
    rw [l] at lk
    cases lk
    exact .of_eq (hb kV doc pm an cdv ct ws hl)⟩
theorem con_mk {v : V} {u : Value} (X : K.In h) (G : h.Ns mainGlobals mg) (a : PySem.W.nsIn K mainGlobals x = some (some u)) (r : RelV v u) : ∃ u, mg x = some u ∧ RelV v u := ⟨u, PySem.W.mg_of X G a, r⟩
theorem cx_none {H : Hp} {s : Shared} {e : Value} {s' : Shared} (h : L2.CX P w [] H s (fun _ _ _ => False) e s') : False := by
  obtain ⟨_, _, _, _, _, _, _, _, _, _, _, _, z⟩ := h
  exact z.elim
/-- the law's own def -/
theorem law_mk {oc : Value} {od an : Option Addr} {osl : Array (Option Value)} {kV doc pm cdv ct : Value} {fa : Addr} {k : Nat} {sp : Sp} (X : K.In h) (G : h.Ns mainGlobals mg) (hfa : mg "law" = some (.ref fa)) (a : PySem.W.nsIn K mainGlobals "law" = some (some (.ref f)))
    (l : K.lookup f = some ⟨oc, od, .func (PySem.W.fnOf "law" "law" (defArgs st) (defBody st) (defScope st) .none kV doc pm an cdv ct), osl⟩) (c : PySem.W.codeIn K cdv "law" = true) (kp : PySem.W.keepIn K (.ref f) = true)
    (hb : ∀ (s : Shared) (v : Value), BindsTo s (PySem.W.fnOf "law" "law" (defArgs st) (defBody st) (defScope st) .none kV doc pm an cdv ct) ⟨[v], []⟩ [("script", v)])
    (ok : ∀ base : Heap, ∀ fd, Fun K "law" "law" st f fd → FnOk P w K mg base (L2.CX P w) k f fd ["script"] sp) :
    ∃ fd : FuncData, (∀ (s : Shared) (v : Value), BindsTo s fd ⟨[v], []⟩ [("script", v)]) ∧ ∀ base : Heap, K.In base → base.Ns mainGlobals mg → FnOk P w K mg base (L2.CX P w) k fa fd ["script"] sp := by
  have e := hfa.symm.trans (PySem.W.mg_of X G a)
  cases e
  exact ⟨_, hb, fun base _ _ => ok base _ (fun_mk (st := st) l c kp)⟩
end
end EM
namespace EM
open PySem PySem.Spec PyProof.Rows L2
/-! ### defs that may show data (repr): nothing is being shown around them -/
structure FnG (P : Program) (w : World) (K : PySem.W.Frag) (mg : Str → Option Value) (base : Heap) (k : Nat) (f : Addr) (fd : FuncData) (ps : List Str) (sp : Sp) : Prop where
  len : ∀ vs H Q E, sp vs H Q E → vs.length = ps.length
  run : ∀ (A : Around) (outer : List Env) (s : Shared) (H : Hp) (args : Args) (us : List Value) (vs : List V) (Q : VK) (E : XK), Room k A → A.guards = some [] → Env0 P w K mg base A outer s H → BindsTo s fd args (ps.zip us) → Vals vs us → sp vs H Q E →
    codeAny (model P w) A (.call (.ref f) args) (CR (L2.CX P w) outer P w H s Q E) s
section
variable {P : Program} {w : World} {K : PySem.W.Frag} {mg : Str → Option Value} {base : Heap}
theorem Fun.okG {x qual : Str} {st : Stmt} {f : Addr} {fd : FuncData} {N ps : List Str} {k : Nat} {sp : Sp} (F : Fun K x qual st f fd) (S : FnScope N ps (defScope st)) (len : ∀ vs H Q E, sp vs H Q E → vs.length = ps.length)
    (hbody : ∀ (cdv : Value) (A : Around) (outer : List Env) (s : Shared) (H : Hp) (vs : List V) (Q : VK) (E : XK), A.guards = some [] → Room k (A.deeper (envOfC qual (defScope st) s.heap.objs.size f cdv)) → sp vs H Q E →
      ∃ t, PSs (cxOf (L2.CX P w) P w K mg base N qual (defScope st) f cdv A outer s H E) (defBody st) t ∧ t { nx := fun _ H' => Q .non H', rt := Q } (start N vs) H) : FnG P w K mg base (k + 1) f fd ps sp := by
  obtain ⟨oc, od, kV, doc, pm, an, cdv, ct, osl, efd, lk, hcd⟩ := F.ex
  refine ⟨len, fun A outer s H args us vs Q E hr hgd e0 hb r hsp => ?_⟩
  rw [efd] at lk hb
  have stays : ∀ b o, base.get? b = some o → s.heap.get? b = some o := fun b o z => (e0.bs b o z).1
  have KX := e0.mod.kin.keeps stays
  have seen : ∀ y ∈ ps.zip us, (defScope st).names.lookup y.1 = some .local ∨ ((defScope st).names.lookup y.1 = some .cell ∧ ((cellsFrom (s.heap.objs.size + 1) (defScope st).names []).lookup y.1).isSome = true) := by
    rintro ⟨n, v⟩ hy
    exact (S.par n (List.of_mem_zip hy).1).imp id fun q => ⟨q, PySem.W.cellsFrom_some _ _ _ (.inl q)⟩
  refine codeAny_call_function hr.depth (KX _ _ lk) rfl S.co S.gen rfl (PySem.W.codeRec_of KX hcd) (hb _ _ _ _ (wpAny_newFunctionEnv_cells S.kind seen fun env he s1 x => ?_))
  cases he
  refine ⟨(e0.mod.nolimit.keeps stays).keeps x.toInCall.keep, codeAny_func ?_⟩
  obtain ⟨t, ht, hq⟩ := hbody cdv A outer s H vs Q E hgd (hr.deeper _) hsp
  have I := inv_start (CX := L2.CX P w) (E := E) (mg := mg) S hr.hd e0 (len _ _ _ _ hsp) r x
  refine wpAny_mono (ht.run [] s1 (start N vs) H _ I hq) (fun fl s' hs => ?_) fun _ _ z => z
  match fl, hs with
  | .ret u, ⟨v, _, H', J, rv, q⟩ => exact ⟨v, H', J.os, J.bare, J.base, J.hok, rv, q⟩
  | .next, ⟨_, H', J, q⟩ => exact ⟨V.non, H', J.os, J.bare, J.base, J.hok, rfl, q⟩
  | .brk, ⟨_, _, _, q⟩ => exact q.elim
  | .cont, ⟨_, _, _, q⟩ => exact q.elim
/-- a def that may show, by its name -/
structure ClG (P : Program) (w : World) (K : PySem.W.Frag) (mg : Str → Option Value) (base : Heap) (k : Nat) (x : Str) (ps : List Str) (sp : Sp) : Prop where
  ex : ∃ (f : Addr) (fd : FuncData), FnG P w K mg base k f fd ps sp ∧ mg x = some (.ref f) ∧ PySem.W.keepIn K (.ref f) = true ∧ Binds K fd ps []
theorem DefAt.okG {x : Str} {st : Stmt} {N ps : List Str} {k : Nat} {sp : Sp} (D : DefAt K mg x st ps) (S : FnScope N ps (defScope st)) (len : ∀ vs H Q E, sp vs H Q E → vs.length = ps.length)
    (hbody : ∀ (f : Addr) (cdv : Value) (A : Around) (outer : List Env) (s : Shared) (H : Hp) (vs : List V) (Q : VK) (E : XK), A.guards = some [] → Room k (A.deeper (envOfC x (defScope st) s.heap.objs.size f cdv)) → sp vs H Q E →
      ∃ t, PSs (cxOf (L2.CX P w) P w K mg base N x (defScope st) f cdv A outer s H E) (defBody st) t ∧ t { nx := fun _ H' => Q .non H', rt := Q } (start N vs) H) : ClG P w K mg base (k + 1) x ps sp := by
  obtain ⟨f, fd, hm, F, hb⟩ := D.ex
  exact ⟨f, fd, Fun.okG F S len fun cdv A outer s H vs Q E hg hr h => hbody f cdv A outer s H vs Q E hg hr h, hm, F.kp, hb⟩
end
section
variable {X : Cx} {k j : Nat} {x : Str} {ps : List Str} {sp : Sp} {e : Expr} {es : List Expr} {t : TA} {p pos : Pos} {E : XK}
/-- such a def is called, raising nothing -/
theorem pgN (c : ClG X.prog X.w X.K X.mg X.base k x ps sp) (hg0 : X.A.guards = some []) (hr : Room j X.A) (hk : k ≤ j) (ha : PA X (e :: es) t) (hg : Gl X x := by rfl)
    (hdb : (x == ("__debug__" : Str)) = false := by decide) (he : starEach (e :: es) X.env = (false, eval e X.env) :: starEach es X.env := by rfl) (hpl : (backTo pos (starEach es X.env)).any (·.1) = false := by rfl) :
    PE X (.Call (.Name x p) (e :: es) [] pos) (tCall sp [] E0 t) := by
  obtain ⟨f, fd, F, hm, kp, b⟩ := c.ex
  refine ⟨fun pins s σ H Q I h => wpAny_Call_Name_kw (ld_glob I hg hm (PySem.W.callWith_K (h₀ := X.base) I.ok.mod.kin kp (thn (ha.run pos pins s σ H _ I h) fun us s1 hh => ?_) he hpl) hdb)⟩
  obtain ⟨vs, H1, I1, r, q⟩ := hh
  have q : sp (vs ++ []) H1 Q E0 := q
  rw [List.append_nil] at q
  have hl : us.length = ps.length := r.length.symm.trans (F.len _ _ _ _ q)
  have hb := b s1 us I1.kIn (by rw [List.append_nil]; exact hl)
  rw [List.append_nil] at hb
  refine ⟨I1.kIn, wpAny_call (codeAny_mono (F.run X.A X.stack s1 H1 ⟨us, []⟩ us vs Q E0 (hr.mono hk) hg0 I1.env0 hb r q) fun rr s' hq => ?_)⟩
  match rr, hq with
  | .error z, hq => exact passL pins σ H1 s1 z s' I1 hq
  | .ok (.ret u), hq => exact I1.after hq
  | .ok .next, hq => exact (show False from hq).elim
  | .ok .brk, hq => exact (show False from hq).elim
  | .ok .cont, hq => exact (show False from hq).elim
/-- what repr(..) of data gives -/
def rShow (K : PySem.W.Frag) : List V → Hp → VK → Prop := fun vs H Q => ∃ v d, vs = [v] ∧ Dp K H v d ∧ d.showable = true ∧ d.hasDict = false ∧ d.depth ≤ 60 ∧ d.shown.length ≤ sizeLine ∧ Q (.str d.shown) H
theorem call_repr (hg0 : X.A.guards = some []) (hr : Room k X.A) : CallR X (.builtin "repr") (rShow X.K) := by
  intro pins s σ H vs us Q I r h
  obtain ⟨v, d, rfl, hd, h1, h2, h3, h4, q⟩ := h
  obtain ⟨u, rfl, rv⟩ := vals1 r
  obtain ⟨as, R⟩ := Dp.reads I d v u hd rv
  cases R with
  | none => exact PySem.P.repr_of_none ⟨.str _, H, I.tok _, ⟨_, rfl⟩, q⟩
  | bool b => exact PySem.P.repr_of_bool ⟨.str _, H, I.tok _, ⟨_, rfl⟩, q⟩
  | int i t => exact PySem.P.repr_of_int (by simpa [PyData.showable] using h1) ⟨.str _, H, I.tok _, ⟨_, rfl⟩, q⟩
  | str x t => exact PySem.P.repr_of_str ⟨.str _, H, I.tok _, ⟨_, rfl⟩, q⟩ h4
  | list a b c e => 
    exact repr_of_reads' (.list a b c e) h1 (PyData.noDict_hsm h2) hg0 (by have := hr.units; omega) (fun _ _ z => z) (fun h' u tk hk => ⟨.str _, H, I.kept (t' := tk) hk, ⟨_, rfl⟩, q⟩) h4
  | tuple a b c e =>
    exact repr_of_reads' (.tuple a b c e) h1 (PyData.noDict_hsm h2) hg0 (by have := hr.units; omega) (fun _ _ z => z) (fun h' u tk hk => ⟨.str _, H, I.kept (t' := tk) hk, ⟨_, rfl⟩, q⟩) h4
  | dict => cases hd
end
/-! ### the law's end, for a law that shows -/
section
variable {P : Program} {w : World} {K : PySem.W.Frag} {mg mb : Str → Option Value} {k : Nat} {fa a : Addr} {fd : FuncData} {sp : Sp} {s1 : Shared} {us : List Value} {ns : List Int}
/-- from an abstract heap that tracks the script at most -/
theorem lawG_core {H : Hp} (KX : K.In s1.heap) (hns : s1.heap.Ns mainGlobals mg) (hb : s1.heap.Ns builtinsNs mb) (hbb : ∀ x : Str, x ≠ "__name__" → mb x = bootBuiltins x) (hlim : s1.heap.NoLimit) (hg : s1.gens = #[])
    (ha : s1.heap.get? a = some { cls := .type "list", data := .seq us.toArray }) (hr : Room k callerA)
    (F : ∀ base : Heap, K.In base → base.Ns mainGlobals mg → FnG P w K mg base k fa fd ["script"] sp) (hbind : ∀ (s : Shared) (u : Value), BindsTo s fd ⟨[u], []⟩ [("script", u)])
    (hO : Only H) (hok : HOk P w H s1.heap) (hA : ∀ b, H b ≠ none → b = a) (hK : H a ≠ none → K.lookup a = none) (hsp : sp [.ref a] H (fun v _ => v = .bl true) fun _ _ _ => False) :
    codeAny (model P w) callerA (.call (.ref fa) ⟨[.ref a], []⟩) (fun r s' => r = .ok (.ret (.bool true)) ∧ OldK s1.heap s'.heap ∧ s'.os = s1.os ∧ AllBare s'.gens) s1 := by
  have out : ∀ {b : Addr}, (∃ u, H b = some u) → b = a := fun {b} ⟨u, q⟩ => hA b fun z => by rw [z] at q; cases q
  have isn : ∀ {b : Addr}, b ≠ a → H b = none := fun {b} n => by
    cases q : H b with
    | none => rfl
    | some u => exact (n (out ⟨u, q⟩)).elim
  have nsK : ∀ {b : Addr} {m : Str → Option Value}, s1.heap.Ns b m → (hidT s1.heap H).Ns b m := by
    rintro b m ⟨o, es, ep, e, d, r⟩
    refine ⟨o, es, ep, hidT_get e (isn fun z => ?_), d, r⟩
    rw [z, ha] at e
    cases e
    have d' : Data.seq us.toArray _ = Data.dict es ep := d
    cases d'
  have hKb : K.In (hidT s1.heap H) := fun b o e => hidT_get (KX b o e) (by
    cases q : H b with
    | none => rfl
    | some u =>
      have z := out ⟨u, q⟩
      rw [z] at e q
      rw [hK (fun w => by rw [w] at q; cases q)] at e
      cases e)
  obtain ⟨mc, l1, l2⟩ := hlim
  have e0 : Env0 P w K mg (hidT s1.heap H) callerA [] s1 H :=
    { frames := rfl, mod := ⟨hKb, nsK hns, ⟨mb, nsK hb, hbb⟩, ⟨mc, nsK l1, l2⟩⟩, bs := fun b o e => of_hidT e, bsz := Nat.le_of_eq (hidT_size _ _), funs := trivial, frf := (fun b z => by cases z), hok := hok, bare := .of_eq hg }
  refine codeAny_mono ((F _ hKb (nsK hns)).run callerA [] s1 H ⟨[.ref a], []⟩ [.ref a] [.ref a] _ _ hr rfl e0 (hbind s1 (.ref a)) (.cons rfl .nil) hsp) fun r s' h => ?_
  match r, h with
  | .error e, h => exact (cx_none h).elim
  | .ok .next, h => exact (show False from h).elim
  | .ok .brk, h => exact (show False from h).elim
  | .ok .cont, h => exact (show False from h).elim
  | .ok (.ret u), ⟨v, H', os, bare, un, hok', r', q⟩ =>
    cases (show v = .bl true from q)
    cases (show u = Value.bool true from r')
    refine ⟨rfl, OldK.of_keep fun b o e => ?_, os, bare⟩
    rcases hO b with z | ⟨ob, xs, z⟩
    · exact un.keep b o e z (fun z => by cases z) (fun z => by cases z)
    · have e1 := (hok b _ z).1
      have e2 := (hok' b _ (un.frzs b ob _ z)).1
      rw [e1] at e
      cases e
      exact e2
theorem lawG_call {bits : Prop} (KX : K.In s1.heap) (hns : s1.heap.Ns mainGlobals mg) (hb : s1.heap.Ns builtinsNs mb) (hbb : ∀ x : Str, x ≠ "__name__" → mb x = bootBuiltins x) (hlim : s1.heap.NoLimit) (hg : s1.gens = #[])
    (ha : s1.heap.get? a = some { cls := .type "list", data := .seq us.toArray }) (hi : IntsAre us ns) (hl : ns.length ≤ sizeLine) (hr : Room k callerA)
    (F : ∀ base : Heap, K.In base → base.Ns mainGlobals mg → FnG P w K mg base k fa fd ["script"] sp) (hbind : ∀ (s : Shared) (u : Value), BindsTo s fd ⟨[u], []⟩ [("script", u)])
    (hsp : ∀ H : Hp, Only H → SqL K H a (ns.map V.int) → sp [.ref a] H (fun v _ => v = .bl true) fun _ _ _ => False) :
    codeAny (model P w) callerA (.call (.ref fa) ⟨[.ref a], []⟩) (fun r s' => r = .ok (.ret (.bool true)) ∧ OldK s1.heap s'.heap ∧ s'.os = s1.os ∧ AllBare s'.gens) s1 := by
  have rv := vals_ints hi
  cases hk : K.lookup a with
  | some o =>
    have e := KX a o hk
    rw [ha] at e
    cases e
    refine lawG_core (H := fun _ => none) KX hns hb hbb hlim hg ha hr F hbind (fun _ => .inl rfl) (fun b u z => by cases z) (fun b z => (z rfl).elim) (fun z => (z rfl).elim) (hsp _ (fun _ => .inl rfl) (.inr ⟨_, us.toArray, _, hk, rfl, rfl, rfl, ?_, by simpa using rv⟩))
    rw [List.size_toArray, hi.length]
    exact hl
  | none =>
    obtain ⟨H, eH⟩ : ∃ H : Hp, H = fun b => if b = a then some (.frz { cls := .type "list", data := .seq us.toArray } (.lst (ns.map V.int))) else none := ⟨_, rfl⟩
    have at_ : H a = some (.frz { cls := .type "list", data := .seq us.toArray } (.lst (ns.map V.int))) := by
      rw [eH]
      exact if_pos rfl
    have off : ∀ b, b ≠ a → H b = none := fun b n => by
      rw [eH]
      exact if_neg n
    have hO : Only H := fun b => by
      by_cases n : b = a
      · exact .inr ⟨_, _, by rw [n]; exact at_⟩
      · exact .inl (off b n)
    refine lawG_core (H := H) KX hns hb hbb hlim hg ha hr F hbind hO (fun b u z => ?_) (fun b z => Classical.byContradiction fun n => z (off b n)) (fun _ => hk) (hsp H hO (.inl (.inr ⟨_, at_⟩)))
    by_cases n : b = a
    · cases n
      rw [at_] at z
      cases z
      exact ⟨ha, by rw [List.length_map]; exact hl, us, _, rv, ha⟩
    · rw [off b n] at z
      cases z
end
theorem walk_G {l : PySem.W.OpenLaw} {k : Nat} {q : Program} {loose : List Str} {XP : (Str → Option Value) → Heap → Prop} {YP : World → Heap → Prop} {d : DefRec} {K : Params → PySem.W.Frag} {sp : World → Sp}
    (hn : l.most = some 63) (hdf : d.params.defaults = []) (hr : Room k callerA) (hY : ∀ (w : World) (h : Heap), YP w h → (K w.params).In h)
    (F : ∀ (w : World) (mg : Str → Option Value) (fa : Addr) (h : Heap), (K w.params).In h → h.Ns mainGlobals mg → mg d.name = some (.ref fa) →
      ∃ fd : FuncData, (∀ (s : Shared) (u : Value), BindsTo s fd ⟨[u], []⟩ [("script", u)]) ∧ ∀ base : Heap, (K w.params).In base → base.Ns mainGlobals mg → FnG l.prog w (K w.params) mg base k fa fd ["script"] (sp w))
    (hsp : ∀ (w : World) (H : Hp) (a : Addr) (ns : List Int), ns.length ≤ 63 → (∀ z ∈ ns, Builtin.Int.intBits z ≤ 1048576) → Only H → SqL (K w.params) H a (ns.map V.int) → sp w [.ref a] H (fun v _ => v = .bl true) fun _ _ _ => False) :
    PySem.W.WalkO q loose XP YP l.row.toRowW d [] (fun f vs => PySem.call f vs) := by
  refine Att.attach_callB hn hdf fun w s0 s1 mg mb fa o pm cd doc a vs ns G Y ho hd hcd hmg hobj hints hlen hbits hg => ?_
  have KX := hY w _ Y
  obtain ⟨fd, hb, hF⟩ := F w mg fa _ KX G.T.g hmg
  exact lawG_call (bits := True) KX G.T.g G.T.b G.T.builtins G.T.nolimit hg hobj hints (Nat.le_trans hlen (by decide)) hr hF hb fun H hO hS => hsp w H a ns hlen hbits hO hS
section
variable {P : Program} {w : World} {K : PySem.W.Frag} {mg : Str → Option Value} {h : Heap} {f : Addr} {st : Stmt}
theorem law_mkG {oc : Value} {od an : Option Addr} {osl : Array (Option Value)} {kV doc pm cdv ct : Value} {fa : Addr} {k : Nat} {sp : Sp} (X : K.In h) (G : h.Ns mainGlobals mg) (hfa : mg "law" = some (.ref fa)) (a : PySem.W.nsIn K mainGlobals "law" = some (some (.ref f)))
    (l : K.lookup f = some ⟨oc, od, .func (PySem.W.fnOf "law" "law" (defArgs st) (defBody st) (defScope st) .none kV doc pm an cdv ct), osl⟩) (c : PySem.W.codeIn K cdv "law" = true) (kp : PySem.W.keepIn K (.ref f) = true)
    (hb : ∀ (s : Shared) (v : Value), BindsTo s (PySem.W.fnOf "law" "law" (defArgs st) (defBody st) (defScope st) .none kV doc pm an cdv ct) ⟨[v], []⟩ [("script", v)])
    (ok : ∀ base : Heap, ∀ fd, Fun K "law" "law" st f fd → FnG P w K mg base k f fd ["script"] sp) :
    ∃ fd : FuncData, (∀ (s : Shared) (v : Value), BindsTo s fd ⟨[v], []⟩ [("script", v)]) ∧ ∀ base : Heap, K.In base → base.Ns mainGlobals mg → FnG P w K mg base k fa fd ["script"] sp := by
  have e := hfa.symm.trans (PySem.W.mg_of X G a)
  cases e
  exact ⟨_, hb, fun base _ _ => ok base _ (fun_mk (st := st) l c kp)⟩
end
end EM
namespace EM
open PySem PySem.Spec PyProof.Rows L2
/-! ### enumerate over a tuple, over a text -/
set_option maxHeartbeats 4000000 in
theorem meets_enum1 {v : Value} {o : Obj} {S : Heap → Prop} (B : Begins v o S) :
    Meets (Builtin.«enumerate.__new__» ⟨[.type "enumerate", v], []⟩) (fun _ R s => S s.heap ∧
      R (.ok (.ret (.ref (s.heap.push o).objs.size))) { s with heap := (s.heap.push o).push { cls := .type "enumerate", data := .fields #[.none, .bool false, .ref s.heap.objs.size, rawInt 0, .none, .none] } }) :=
  .of_wp fun prog w A R s h => by
    obtain ⟨hp, g, d, tk, os⟩ := s
    obtain ⟨z1, z2⟩ := h
    have sub := sub_enumerate
    have go : ∀ {A1 : Around} {E1 : Value → Shared → Prop} {Q1 : Value → Shared → Prop}, Q1 (.ref hp.objs.size) ⟨hp.push o, g, d, tk, os⟩ → wpAny (model prog w) A1 (pyIter v) Q1 E1 ⟨hp, g, d, tk, os⟩ := fun q => B.iter prog w _ _ ⟨hp, g, d, tk, os⟩ _ z1 q
    wp_walk using go
    refine wpAny_stack_any fun st => wpAny_pure ?_
    split
    · rename_i c _ _ _ _ _
      cases (c == Value.type "enumerate") <;> (wp_walk using go; exact ⟨_, rfl, z2⟩)
    · wp_walk using go
      exact ⟨_, rfl, z2⟩
section
variable {prog : Program} {w : World} {A : Around} {E : Value → Shared → Prop} {s : Shared}
theorem call_enum1 {v : Value} {o : Obj} {S : Heap → Prop} {Q : Value → Shared → Prop} (B : Begins v o S) (hS : S s.heap)
    (h : ∀ h', IsEnum h' (s.heap.objs.size + 1) s.heap.objs.size 0 .none → h'.get? s.heap.objs.size = some o → (∀ b u, s.heap.get? b = some u → h'.get? b = some u) → Q (.ref (s.heap.objs.size + 1)) { s with heap := h' }) :
    wpAny (model prog w) A (call (.type "enumerate") [v]) Q E s := by
  have sz : (s.heap.push o).objs.size = s.heap.objs.size + 1 := Heap.size_push ..
  refine callType_new F.called_enumerate (by decide) (F.typeCall_enumerate_1 _) (F.newCall_enumerate_1 _) (fun obj => F.args_object_init_2 obj _) F.entry_enumerate_new (meets_enum1 B) ⟨hS, ?_⟩
  show _ ∧ _
  rw [sz]
  have he : IsEnum ((s.heap.push o).push { cls := .type "enumerate", data := .fields #[.none, .bool false, .ref s.heap.objs.size, rawInt 0, .none, .none] }) (s.heap.objs.size + 1) s.heap.objs.size 0 .none := by
    have q := Heap.get?_push_size (s.heap.push o) (o := { cls := .type "enumerate", data := .fields #[.none, .bool false, .ref s.heap.objs.size, rawInt 0, .none, .none] }) rfl
    rwa [sz] at q
  exact ⟨⟨_, he, rfl⟩, h _ he (Heap.get?_push_of_some _ (Heap.get?_push_size _ B.free)) fun b u x => Heap.get?_push_of_some _ (Heap.get?_push_of_some _ x)⟩
end
/-- pairs (i, x) of what stands still: n items, the i-th one is x where Y i x; G: it stands -/
def IteG (G : Hp → Prop) (n : Nat) (Y : Nat → V → Prop) : It :=
  ⟨fun i H => G H ∧ i < n, fun i H v H' => ∃ T x, v = .ref T ∧ H T = none ∧ H' = upd H T (.tup [.int (i : Nat), x]) ∧ Y i x, fun i H => G H ∧ i = n⟩
/-- what is drawn by the iterator at it, where G stands -/
structure Src (P : Program) (w : World) (K : PySem.W.Frag) (it : Addr) (G : Hp → Prop) (n : Nat) (Y : Nat → V → Prop) (stat : Nat → Heap → Prop) : Prop where
  live : ∀ i h, stat i h → ∃ o, h.get? it = some o ∧ (∀ v, o.data ≠ .cell v) ∧ o.cls ≠ .type "enumerate"
  keep : ∀ i h h', stat i h → (∀ o, h.get? it = some o → h'.get? it = some o) → stat i h'
  draws : ∀ (X : Cx), X.prog = P → X.w = w → X.K = K → X.calm = true → ∀ (pins : List (Addr × Obj)) (s : Shared) (σ : L2.St) (H : Hp), Inv X pins σ H s → G H → (∃ i, stat i s.heap) →
    ∃ fp Pr Sx, Draws P w X.A.in1 it fp n Pr Sx ∧ (∀ i, stat i s.heap → Sx i s.heap) ∧ (∀ i h, Sx i h → stat i h) ∧ (∀ b ∈ fp, b ≠ it → ∃ o, s.heap.get? b = some o ∧ o.cls ≠ .type "enumerate") ∧ ∀ i u, Pr i u → ∃ x, RelV x u ∧ Y i x
theorem turn_enumG {P : Program} {w : World} {K : PySem.W.Frag} {elts : List Expr} {kk : Nat} {tpos : Pos} {e it : Addr} {G : Hp → Prop} {n : Nat} {Y : Nat → V → Prop} {stat : Nat → Heap → Prop} (S : Src P w K it G n Y stat) :
    Turn P w K (.Tuple elts kk tpos) (IteG G n Y) [e, it] e (fun i h => (∃ old, IsEnum h e it ((i : Nat) : Int) old) ∧ stat i h ∧ e ≠ it) where
  mem := by simp
  obj := fun i h st b hb => by
    obtain ⟨⟨old, he⟩, hst, _⟩ := st
    obtain ⟨o, ho, hc, _⟩ := S.live i h hst
    simp only [List.mem_cons, List.not_mem_nil, or_false] at hb
    rcases hb with rfl | rfl
    · exact ⟨_, he, fun v q => nomatch q⟩
    · exact ⟨o, ho, hc⟩
  keep := fun i h h' st k => ⟨let ⟨old, he⟩ := st.1; ⟨old, k e (by simp) _ he⟩, S.keep i h h' st.2.1 fun o q => k it (by simp) o q, st.2.2⟩
  item := by
    intro X hP hw hK hc i pins s σ H E I hf st hg
    obtain ⟨⟨old, he⟩, hst, hne⟩ := st
    obtain ⟨gH, hi⟩ := hg
    obtain ⟨fp, Pr, Sx, D, d1, d2, d3, d4⟩ := S.draws X hP hw hK hc pins s σ H I gH ⟨i, hst⟩
    subst hP hw hK
    have hef : e ∉ fp := fun z => by
      obtain ⟨o, q1, q2⟩ := d3 e z hne
      rw [show s.heap.get? e = _ from he] at q1
      cases q1
      exact q2 rfl
    have hel : e < s.heap.objs.size := Heap.lt_size he
    have hil : it < s.heap.objs.size := by
      obtain ⟨o, q, _⟩ := S.live i _ hst
      exact Heap.lt_size q
    refine wpAny_pyNext_enum_itemD D he (d1 i hst) hi hne hef fun u h' tk hPr ho hst' hT hsz hk => ?_
    obtain ⟨x, ru, yx⟩ := d4 i u hPr
    refine ⟨_, rfl, wpAny_letOwnedTupleGo_enum (s := { s with heap := h', toks := tk + 1 }) ho fun h'' he' sb => ?_⟩
    have hT2 : h''.get? s.heap.objs.size = some { cls := .type "tuple", data := .seq #[.int i tk, u] } := (sb.2 _ (Nat.ne_of_gt hel)).trans hT
    have new : ObjOk X.prog X.w (upd H s.heap.objs.size (.tup [.int (i : Nat), x])) h'' s.heap.objs.size (.tup [.int (i : Nat), x]) :=
      ⟨by show 2 ≤ sizeLine; decide, [.int i tk, u], .cons ⟨_, rfl⟩ (.cons ru .nil), ⟨_, hT2, rfl, _, rfl⟩⟩
    have I1 : Inv X pins σ (upd H s.heap.objs.size (.tup [.int (i : Nat), x])) { s with heap := h'', toks := tk + 1 } :=
      I.turnedNew (ch := [e, it]) (fun b ob hb q => (sb.2 b (fun z => hb (by simp [z]))).trans (hk b ob (fun z => hb (by simp [z])) (fun z => hb (by simp [z])) q)) hf (Nat.le_refl _) new
    refine ⟨.ref s.heap.objs.size, _, I1, rfl, ⟨_, x, rfl, I.hok.fresh (Nat.le_refl _), rfl, yx⟩, ⟨⟨u, ?_⟩, S.keep _ _ _ (d2 _ _ hst') fun o q => (sb.2 it (Ne.symm hne)).trans q, hne⟩, fun b hb => ?_⟩
    · rw [show ((i + 1 : Nat) : Int) = (i : Int) + 1 by omega]
      exact he'
    · have hb' : b < s.heap.objs.size := by
        simp only [List.mem_cons, List.not_mem_nil, or_false] at hb
        rcases hb with rfl | rfl
        · exact hel
        · exact hil
      rw [upd_ne (Nat.ne_of_lt hb')]
      exact (hf b hb).1
  done := by
    intro X hP hw hK hc i pins s σ H E I hf st hg
    obtain ⟨⟨old, he⟩, hst, hne⟩ := st
    obtain ⟨gH, hi⟩ := hg
    obtain ⟨fp, Pr, Sx, D, d1, d2, d3, d4⟩ := S.draws X hP hw hK hc pins s σ H I gH ⟨i, hst⟩
    subst hP hw hK
    subst hi
    obtain ⟨f0, f1, f2, f3, f4, f5⟩ := hf it (by simp)
    exact wpAny_pyNext_enum_endD D he (d1 _ hst) fun h' eb => ⟨rfl, I.turned (t' := s.toks) (fun b o hb q => eb b o hb q) f0 f1 f3 f4 f5⟩
  self := fun A i s Q E st h => let ⟨⟨_, he⟩, _⟩ := st; wpAny_pyIter_enum he h
theorem src_tuple {P : Program} {w : World} {K : PySem.W.Frag} {it a : Addr} {xs : List V} : Src P w K it (fun H => SqT K H a xs) xs.length (fun i x => xs[i]? = some x) (fun i h => h.IsTupleIter it a i) where
  live := fun i h ⟨o, ho, hc, hd⟩ => ⟨o, ho, (fun v z => by rw [hd] at z; cases z), (fun z => absurd (Value.type.inj (hc.symm.trans z)) (by decide))⟩
  keep := fun i h h' st k => st.at k
  draws := by
    intro X hP hw hK hc pins s σ H I gH ⟨i0, o0, ho0, hc0, hd0⟩
    subst hP hw hK
    obtain ⟨its, rv, p, hz⟩ := I.tuple gH
    obtain ⟨oa, ha, hca, _⟩ := id p
    have ne : a ≠ it := fun z => by
      rw [z, ho0] at ha
      cases ha
      exact absurd (Value.type.inj (hc0.symm.trans hca)) (by decide)
    have D := Draws.tuple (prog := X.prog) (w := X.w) (A := X.A.in1) (I.ok.hd hc) it a ne its.toArray
    rw [show its.toArray.size = xs.length by rw [List.size_toArray, rv.length]] at D
    refine ⟨_, _, _, D, fun i st => ⟨st, p⟩, fun i h st => st.1, fun b hb hn => ?_, fun i u hu => ?_⟩
    · simp only [List.mem_cons, List.not_mem_nil, or_false] at hb
      rcases hb with rfl | rfl
      · exact (hn rfl).elim
      · exact ⟨oa, ha, fun z => absurd (Value.type.inj (hca.symm.trans z)) (by decide)⟩
    · cases e : xs[i]? with
      | none =>
        have := rv.none_of e
        rw [List.getElem?_toArray] at hu
        rw [this] at hu
        cases hu
      | some x =>
        obtain ⟨u', hu', r⟩ := rv.get e
        rw [List.getElem?_toArray] at hu
        rw [hu'] at hu
        cases hu
        exact ⟨x, r, rfl⟩
theorem src_text {P : Program} {w : World} {K : PySem.W.Frag} {it : Addr} {z : Str} {t : Tok} : Src P w K it (fun _ => True) z.cps.size (fun i x => ∃ c, z.cps[i]? = some c ∧ x = .str ⟨#[c]⟩) (fun i h => h.IsStrIter it (strIterType z) z t i) where
  live := fun i h ⟨o, ho, hc, hd⟩ => ⟨o, ho, (fun v z => by rw [hd] at z; cases z), (fun q => by
    have q := Value.type.inj (hc.symm.trans q)
    unfold strIterType at q
    split at q <;> exact absurd q (by decide))⟩
  keep := fun i h h' st k => let ⟨o, q, r⟩ := st; ⟨o, k o q, r⟩
  draws := by
    intro X hP hw hK hc pins s σ H I gH _
    subst hP hw hK
    refine ⟨_, _, _, Draws.text (prog := X.prog) (w := X.w) (A := X.A.in1) (I.ok.hd hc) it z t, fun i st => st, fun i h st => st, fun b hb hn => ?_, fun i u hu => ?_⟩
    · simp only [List.mem_cons, List.not_mem_nil, or_false] at hb
      exact (hn hb).elim
    · obtain ⟨c, u', e1, e2⟩ := hu
      subst e2
      exact ⟨.str ⟨#[c]⟩, ⟨_, rfl⟩, c, e1, rfl⟩
def iEnumT (K : PySem.W.Frag) (ta : TA) : TI := fun σ H R => ta σ H fun vs H1 => ∃ a xs, vs = [.ref a] ∧ SqT K H1 a xs ∧ R (IteG (fun H => SqT K H a xs) xs.length (fun i x => xs[i]? = some x)) H1
def iEnumS (ta : TA) : TI := fun σ H R => ta σ H fun vs H1 => ∃ z, vs = [.str z] ∧ R (IteG (fun _ => True) z.cps.size (fun i x => ∃ c, z.cps[i]? = some c ∧ x = .str ⟨#[c]⟩)) H1
section
variable {X : Cx} {e : Expr} {ta : TA} {p pos tpos : Pos} {elts : List Expr} {kk : Nat}
theorem enum_fp {pins : List (Addr × Obj)} {σ : L2.St} {H : Hp} {s : Shared} (I : Inv X pins σ H s) : ∀ b ∈ [s.heap.objs.size + 1, s.heap.objs.size], FpOk X pins H b := fun b hb => by
  have hle : s.heap.objs.size ≤ b := by
    simp only [List.mem_cons, List.not_mem_nil, or_false] at hb
    omega
  exact I.fpOk hle (I.hok.fresh hle)
theorem pi_enumT (hg : Gl X "enumerate") (hm : X.mg "enumerate" = none) (ha : PA X [e] ta) (hs : starEach [e] X.env = [(false, eval e X.env)] := by rfl) :
    PI X (.Tuple elts kk tpos) (.Call (.Name "enumerate" p) [e] [] pos) (iEnumT X.K ta) := by
  refine ⟨fun pins s σ H R I h => Call_ (ld_blt I hg hm boot_enumerate (PyProof.Rows.callWith_type1 (thn (ha.run pos pins s σ H _ I h) fun us s1 hh => ?_) hs rfl))⟩
  obtain ⟨vs, H1, I1, r1, a, xs, ex, hq, q⟩ := hh
  subst ex
  obtain ⟨u, rfl, ru⟩ := vals1 r1
  cases ru
  obtain ⟨its, rv, p', hz⟩ := I1.tuple hq
  refine call_enum1 (begins_tuple a its.toArray) p' fun h' he hit hk => wpAny_pyIter_enum he ?_
  exact ⟨s1.heap.objs.size + 1, _, _, _, H1, rfl, I1.kept (t' := s1.toks) hk, turn_enumG (src_tuple (a := a) (xs := xs)), ⟨⟨.none, he⟩, ⟨_, hit, rfl, rfl⟩, Nat.succ_ne_self _⟩, enum_fp I1, q⟩
theorem pi_enumS (hg : Gl X "enumerate") (hm : X.mg "enumerate" = none) (ha : PA X [e] ta) (hs : starEach [e] X.env = [(false, eval e X.env)] := by rfl) :
    PI X (.Tuple elts kk tpos) (.Call (.Name "enumerate" p) [e] [] pos) (iEnumS ta) := by
  refine ⟨fun pins s σ H R I h => Call_ (ld_blt I hg hm boot_enumerate (PyProof.Rows.callWith_type1 (thn (ha.run pos pins s σ H _ I h) fun us s1 hh => ?_) hs rfl))⟩
  obtain ⟨vs, H1, I1, r1, z, ex, q⟩ := hh
  subst ex
  obtain ⟨u, rfl, ru⟩ := vals1 r1
  obtain ⟨t, rfl⟩ := ru
  refine call_enum1 (begins_text z t) trivial fun h' he hit hk => wpAny_pyIter_enum he ?_
  exact ⟨s1.heap.objs.size + 1, _, _, _, H1, rfl, I1.kept (t' := s1.toks) hk, turn_enumG (src_text (z := z) (t := t)), ⟨⟨.none, he⟩, ⟨_, hit, rfl, rfl⟩, Nat.succ_ne_self _⟩, enum_fp I1, q⟩
end
/-- the reading of a for over such pairs -/
theorem for_G {G : Hp → Prop} {n : Nat} {Y : Nat → V → Prop} {g : TG} {tb : TS} {D : Ends} {σ : L2.St} {H : Hp} (Pv : Nat → L2.St → Hp → Prop) (h0 : Pv 0 σ H) (hG : ∀ i σ H, i ≤ n → Pv i σ H → G H)
    (hs : ∀ i T x σ H, i < n → Y i x → H T = none → Pv i σ H → g (.ref T) σ (upd H T (.tup [.int (i : Nat), x])) fun σ2 H2 => tb { D with nx := Pv (i + 1), ct := Pv (i + 1), bk := D.nx } σ2 H2) (hd : ∀ σ H, Pv n σ H → D.nx σ H) :
    ∃ W : Nat → Nat → L2.St → Hp → Prop, (∃ m, W 0 m σ H) ∧ ∀ i m σ H, W i m σ H →
      ((IteG G n Y).stop i H ∧ D.nx σ H) ∨ ((IteG G n Y).go i H ∧ ∃ N : L2.St → Hp → Prop, (∀ σ' H', N σ' H' → ∃ m', m' < m ∧ W (i + 1) m' σ' H') ∧ ∀ x H', (IteG G n Y).yld i H x H' → g x σ H' fun σ2 H2 => tb { D with nx := N, ct := N, bk := D.nx } σ2 H2) := by
  refine ⟨fun i m σ H => m = n - i ∧ i ≤ n ∧ Pv i σ H, ⟨n, rfl, Nat.zero_le _, h0⟩, ?_⟩
  rintro i m σ H ⟨rfl, hi, p⟩
  have gH := hG i σ H hi p
  rcases Nat.lt_or_ge i n with l | l
  · refine .inr ⟨⟨gH, l⟩, Pv (i + 1), fun σ' H' p' => ⟨n - (i + 1), by omega, rfl, l, p'⟩, fun x H' y => ?_⟩
    obtain ⟨T, v, rfl, nT, rfl, yv⟩ := y
    exact hs i T v σ H l yv nT p
  · have e : i = n := Nat.le_antisymm hi l
    subst e
    exact .inl ⟨⟨gH, rfl⟩, hd σ H p⟩
/-- the reading of a comprehension over such pairs -/
theorem lc_G {G : Hp → Prop} {n : Nat} {Y : Nat → V → Prop} {g : TG} {tt : TT} {te : TE} {vs : List Nat} {σ : L2.St} {H1 : Hp} {D : Addr} {Qd : Hp → Prop} (Pv : Nat → Hp → Prop) (h0 : Pv 0 (upd H1 D (.lst []))) (hG : ∀ i H, i ≤ n → Pv i H → G H)
    (hs : ∀ i T x H, i < n → Y i x → H T = none → Pv i H → g (.ref T) (wipe σ vs) (upd H T (.tup [.int (i : Nat), x])) fun σ2 H2 => wipe σ2 vs = wipe σ vs ∧ tt σ2 H2 fun b H3 =>
      if b = true then te σ2 H3 fun y H4 => ∃ acc, H4 D = some (.lst acc) ∧ acc.length < sizeLine ∧ Pv (i + 1) (upd H4 D (.lst (acc ++ [y]))) else Pv (i + 1) H3) (hd : ∀ H, Pv n H → Qd H) :
    ∃ W : Nat → Nat → Hp → Prop, (∃ m, W 0 m (upd H1 D (.lst []))) ∧ ∀ i m H, W i m H →
      ((IteG G n Y).stop i H ∧ Qd H) ∨ ((IteG G n Y).go i H ∧ ∃ Nx : Hp → Prop, (∀ H', Nx H' → ∃ m', m' < m ∧ W (i + 1) m' H') ∧ ∀ x H', (IteG G n Y).yld i H x H' → g x (wipe σ vs) H' fun σ2 H2 => wipe σ2 vs = wipe σ vs ∧ tt σ2 H2 fun b H3 =>
        if b = true then te σ2 H3 fun y H4 => ∃ acc, H4 D = some (.lst acc) ∧ acc.length < sizeLine ∧ Nx (upd H4 D (.lst (acc ++ [y]))) else Nx H3) := by
  refine ⟨fun i m H => m = n - i ∧ i ≤ n ∧ Pv i H, ⟨n, rfl, Nat.zero_le _, h0⟩, ?_⟩
  rintro i m H ⟨rfl, hi, p⟩
  have gH := hG i H hi p
  rcases Nat.lt_or_ge i n with l | l
  · refine .inr ⟨⟨gH, l⟩, Pv (i + 1), fun H' p' => ⟨n - (i + 1), by omega, rfl, l, p'⟩, fun x H' y => ?_⟩
    obtain ⟨T, v, rfl, nT, rfl, yv⟩ := y
    exact hs i T v H l yv nT p
  · have e : i = n := Nat.le_antisymm hi l
    subst e
    exact .inl ⟨⟨gH, rfl⟩, hd H p⟩
/-- the reading of a for over enumerate of a list -/
theorem for_E {K : PySem.W.Frag} {a : Addr} {xs : List V} {g : TG} {tb : TS} {D : Ends} {σ : L2.St} {H : Hp} (Pv : Nat → L2.St → Hp → Prop) (h0 : Pv 0 σ H) (hl : ∀ i σ H, i ≤ xs.length → Pv i σ H → SqL K H a xs)
    (hs : ∀ i T x σ H, xs[i]? = some x → H T = none → Pv i σ H → g (.ref T) σ (upd H T (.tup [.int (i : Nat), x])) fun σ2 H2 => tb { D with nx := Pv (i + 1), ct := Pv (i + 1), bk := D.nx } σ2 H2) (hd : ∀ σ H, Pv xs.length σ H → D.nx σ H) :
    ∃ W : Nat → Nat → L2.St → Hp → Prop, (∃ m, W 0 m σ H) ∧ ∀ i m σ H, W i m σ H →
      ((Ite K a).stop i H ∧ D.nx σ H) ∨ ((Ite K a).go i H ∧ ∃ N : L2.St → Hp → Prop, (∀ σ' H', N σ' H' → ∃ m', m' < m ∧ W (i + 1) m' σ' H') ∧ ∀ x H', (Ite K a).yld i H x H' → g x σ H' fun σ2 H2 => tb { D with nx := N, ct := N, bk := D.nx } σ2 H2) := by
  refine ⟨fun i m σ H => m = xs.length - i ∧ i ≤ xs.length ∧ Pv i σ H, ⟨_, rfl, Nat.zero_le _, h0⟩, ?_⟩
  rintro i m σ H ⟨rfl, hi, p⟩
  have hS := hl i σ H hi p
  rcases Nat.lt_or_ge i xs.length with l | l
  · refine .inr ⟨⟨xs, xs[i], hS, List.getElem?_eq_getElem l⟩, Pv (i + 1), fun σ' H' p' => ⟨xs.length - (i + 1), by omega, rfl, l, p'⟩, fun x H' y => ?_⟩
    obtain ⟨T, v, rfl, nT, rfl, yv⟩ := y
    exact hs i T v σ H (yv xs hS) nT p
  · have e : i = xs.length := Nat.le_antisymm hi l
    subst e
    exact .inl ⟨⟨xs, hS, Nat.le_refl _⟩, hd σ H p⟩
/-- the reading of a comprehension over enumerate of a list -/
theorem lc_E {K : PySem.W.Frag} {a : Addr} {xs : List V} {g : TG} {tt : TT} {te : TE} {vs : List Nat} {σ : L2.St} {H1 : Hp} {D : Addr} {Qd : Hp → Prop} (Pv : Nat → Hp → Prop) (h0 : Pv 0 (upd H1 D (.lst []))) (hl : ∀ i H, i ≤ xs.length → Pv i H → SqL K H a xs)
    (hs : ∀ i T x H, xs[i]? = some x → H T = none → Pv i H → g (.ref T) (wipe σ vs) (upd H T (.tup [.int (i : Nat), x])) fun σ2 H2 => wipe σ2 vs = wipe σ vs ∧ tt σ2 H2 fun b H3 =>
      if b = true then te σ2 H3 fun y H4 => ∃ acc, H4 D = some (.lst acc) ∧ acc.length < sizeLine ∧ Pv (i + 1) (upd H4 D (.lst (acc ++ [y]))) else Pv (i + 1) H3) (hd : ∀ H, Pv xs.length H → Qd H) :
    ∃ W : Nat → Nat → Hp → Prop, (∃ m, W 0 m (upd H1 D (.lst []))) ∧ ∀ i m H, W i m H →
      ((Ite K a).stop i H ∧ Qd H) ∨ ((Ite K a).go i H ∧ ∃ Nx : Hp → Prop, (∀ H', Nx H' → ∃ m', m' < m ∧ W (i + 1) m' H') ∧ ∀ x H', (Ite K a).yld i H x H' → g x (wipe σ vs) H' fun σ2 H2 => wipe σ2 vs = wipe σ vs ∧ tt σ2 H2 fun b H3 =>
        if b = true then te σ2 H3 fun y H4 => ∃ acc, H4 D = some (.lst acc) ∧ acc.length < sizeLine ∧ Nx (upd H4 D (.lst (acc ++ [y]))) else Nx H3) := by
  refine ⟨fun i m H => m = xs.length - i ∧ i ≤ xs.length ∧ Pv i H, ⟨_, rfl, Nat.zero_le _, h0⟩, ?_⟩
  rintro i m H ⟨rfl, hi, p⟩
  have hS := hl i H hi p
  rcases Nat.lt_or_ge i xs.length with l | l
  · refine .inr ⟨⟨xs, xs[i], hS, List.getElem?_eq_getElem l⟩, Pv (i + 1), fun H' p' => ⟨xs.length - (i + 1), by omega, rfl, l, p'⟩, fun x H' y => ?_⟩
    obtain ⟨T, v, rfl, nT, rfl, yv⟩ := y
    exact hs i T v H (yv xs hS) nT p
  · have e : i = xs.length := Nat.le_antisymm hi l
    subst e
    exact .inl ⟨⟨xs, hS, Nat.le_refl _⟩, hd H p⟩
/-- a list in the making at a new place: all that was is as it was -/
structure Mk (H : Hp) (D : Addr) (acc : List V) (H' : Hp) : Prop where
  same : Same H H'
  at_ : H' D = some (.lst acc)
theorem Mk.start {H : Hp} {D : Addr} (n : H D = none) : Mk H D [] (upd H D (.lst [])) := ⟨same_new n, upd_same⟩
theorem Mk.next {H H1 H2 : Hp} {D : Addr} {acc : List V} (m : Mk H D acc H1) (s : Same H1 H2) : Mk H D acc H2 := ⟨m.same.trans s, s _ _ m.at_⟩
theorem Mk.push {H H1 : Hp} {D : Addr} {acc : List V} (n : H D = none) (m : Mk H D acc H1) (y : V) : Mk H D (acc ++ [y]) (upd H1 D (.lst (acc ++ [y]))) :=
  ⟨fun b o hb => by
    have : b ≠ D := fun z => by rw [z, n] at hb; cases hb
    rw [upd_ne this]
    exact m.same b o hb, upd_same⟩
theorem Mk.keep {H H1 : Hp} {D : Addr} {acc : List V} (m : Mk H D acc H1) : Keep H H1 := Keep.of m.same
/-! ### rules whose reading speaks of the written part, for a comprehension's block -/
section
variable {X : Cx} {K : PySem.W.Frag}
theorem kIx {r : PySem.W.Frag → R2} (i : IxR X (r X.K)) (h : X.K = K) : IxR X (r K) := h ▸ i
theorem kOp {r : PySem.W.Frag → R2} {f : Value → Value → Sem Value} (i : OpR X f (r X.K)) (h : X.K = K) : OpR X f (r K) := h ▸ i
theorem kCall {r : PySem.W.Frag → List V → Hp → VK → Prop} {f : Value} (i : CallR X f (r X.K)) (h : X.K = K) : CallR X f (r K) := h ▸ i
theorem kTg {n : Nat} {t : TGs} {e : Expr} (i : PG X e (gTup X.K n t)) (h : X.K = K) : PG X e (gTup K n t) := h ▸ i
def rLenSeq (K : PySem.W.Frag) : List V → Hp → VK → Prop := fun xs H Q => ∃ p ys, xs = [.ref p] ∧ (SqL K H p ys ∨ SqT K H p ys) ∧ Q (.int ys.length) H
theorem bIxT (h : X.K = K) : IxR X (rIxT K) := kIx (r := rIxT) ix_tup h
theorem bIxL (h : X.K = K) : IxR X (rIxL K) := kIx (r := rIxL) ix_list h
theorem bIx (h : X.K = K) : IxR X (rIx K) := kIx (r := rIx) ix_seq h
theorem bLen (h : X.K = K) : CallR X (.builtin "len") (rLenSeq K) := kCall (r := rLenSeq) call_len_seq h
theorem bIsi (h : X.K = K) : CallR X (.builtin "isinstance") (rIsi K) := kCall (r := rIsi) call_isi h
theorem bAll (hc : X.calm = true) (h : X.K = K) : CallR X (.builtin "all") (rAll K) := kCall (r := rAll) (cr_all hc) h
theorem bAny (hc : X.calm = true) (h : X.K = K) : CallR X (.builtin "any") (rAny K) := kCall (r := rAny) (cr_any hc) h
theorem bIn (h : X.K = K) : OpR X (compareOp .In) (rIn K false) := kOp (r := fun K => rIn K false) op_in_seq h
theorem bNotIn (h : X.K = K) : OpR X (compareOp .NotIn) (rIn K true) := kOp (r := fun K => rIn K true) op_notIn_seq h
theorem bEqD (hu : X.A.units + 64 < cLine) (h : X.K = K) : OpR X (compareOp .Eq) (rEqD K) := kOp (r := rEqD) (op_eqD hu) h
theorem bNeD (hu : X.A.units + 64 < cLine) (h : X.K = K) : OpR X (compareOp .NotEq) (rNeD K) := kOp (r := rNeD) (op_neD hu) h
end
end EM
namespace EM
open PySem PySem.Spec PyProof.Rows L2
open PySem.W (maxD AlikeAll max_list_default dataLt dataLt_int)
/-! ### max(xs, default=d) of ints -/
def rMaxDf (K : PySem.W.Frag) (d : Int) : List V → List V → Hp → VK → Prop := fun vs zs H Q => ∃ (a : Addr) (ns : List Int), vs = [V.ref a] ∧ zs = [.int d] ∧ SqL K H a (ns.map V.int) ∧
  ∀ m, (ns = [] → m = d) → (∀ x ∈ ns, x ≤ m) → (ns ≠ [] → m ∈ ns) → Q (.int m) H
theorem maxD_intsM : ∀ (xs : List Int) (x : Int), ∃ m : Int, maxD (.int x) (xs.map PyData.int) = .int m ∧ m ∈ x :: xs ∧ ∀ y ∈ x :: xs, y ≤ m
  | [], x => ⟨x, rfl, List.mem_cons_self .., fun y hy => by
      rcases List.mem_cons.mp hy with rfl | h
      · exact Int.le_refl _
      · cases h⟩
  | z :: r, x => by
    have e : maxD (.int x) ((z :: r).map PyData.int) = maxD (if dataLt (.int x) (.int z) then .int z else .int x) (r.map PyData.int) := rfl
    rw [e, dataLt_int]
    by_cases c : x < z
    · obtain ⟨m, h1, h2, h3⟩ := maxD_intsM r z
      refine ⟨m, by rw [decide_eq_true c, if_pos rfl, h1], List.mem_cons_of_mem _ h2, fun y hy => ?_⟩
      rcases List.mem_cons.mp hy with rfl | h
      · have := h3 z (List.mem_cons_self ..)
        omega
      · exact h3 y h
    · obtain ⟨m, h1, h2, h3⟩ := maxD_intsM r x
      refine ⟨m, by rw [decide_eq_false c, if_neg Bool.false_ne_true, h1], ?_, fun y hy => ?_⟩
      · rcases List.mem_cons.mp h2 with rfl | h
        · exact List.mem_cons_self ..
        · exact List.mem_cons_of_mem _ (List.mem_cons_of_mem _ h)
      · rcases List.mem_cons.mp hy with rfl | h
        · exact h3 y (List.mem_cons_self ..)
        · rcases List.mem_cons.mp h with rfl | h
          · have := h3 x (List.mem_cons_self ..)
            omega
          · exact h3 y (List.mem_cons_of_mem _ h)
theorem alike_ints (ns : List Int) : AlikeAll (ns.map PyData.int) := by
  refine ⟨fun x hx y hy => ?_, fun x hx => ?_⟩
  · obtain ⟨a, _, rfl⟩ := List.mem_map.mp hx
    obtain ⟨b, _, rfl⟩ := List.mem_map.mp hy
    rfl
  · obtain ⟨a, _, rfl⟩ := List.mem_map.mp hx
    intro z
    cases z
theorem depth_ints : ∀ ns : List Int, PyData.depthAll (ns.map PyData.int) = 0
  | [] => by simp only [List.map_nil, PyData.depthAll]
  | n :: r => by simp only [List.map_cons, PyData.depthAll, PyData.depth, depth_ints r, Nat.max_self]
theorem dpAll_ints {K : PySem.W.Frag} {H : Hp} : ∀ ns : List Int, DpAll K H (ns.map V.int) (ns.map PyData.int)
  | [] => .nil
  | n :: r => .cons (.int n) (dpAll_ints r)
theorem cr_maxDf {X : Cx} {d : Int} (hc : X.calm = true) (hu : X.A.units + 64 < cLine) : CallRK X (.builtin "max") [Str.ofString "default"] (rMaxDf X.K d) := by
  intro pins s σ H vs zs us ws Q I r rz h
  obtain ⟨a, ns, rfl, rfl, hs, q⟩ := h
  obtain rfl := Vals.ref1 r
  obtain ⟨w1, rfl, t, rfl⟩ := vals1 rz
  obtain ⟨its, rv, hl, hz⟩ := I.list hs
  obtain ⟨as, hr⟩ := Dp.readsAll I (ns.map PyData.int) _ its (dpAll_ints ns) rv
  refine PySem.W.max_list_default (xs := ns.map PyData.int) (I.ok.hd hc) hl.isList hr (alike_ints ns) (by rw [depth_ints]; omega) (fun e h' tk hk => ?_) (fun y ys i v h' tk bs e hv hrv hk => ?_)
  · have e : ns = [] := List.map_eq_nil_iff.mp e
    exact ⟨.int d, H, I.kept hk, ⟨t, rfl⟩, q d (fun _ => rfl) (fun x hx => by rw [e] at hx; cases hx) fun z => (z e).elim⟩
  · cases ns with
    | nil => cases e
    | cons n r =>
      cases e
      obtain ⟨m, h1, h2, h3⟩ := maxD_intsM r n
      rw [h1] at hrv
      cases hrv with
      | int _ t' => exact ⟨.int m, H, I.kept hk, ⟨t', rfl⟩, q m (fun z => by cases z) h3 fun _ => h2⟩
end EM

namespace EM
open PySem PySem.Spec PyProof.Rows L2
/-! ### shapes: plain -/
/-- the least widths: 1, 2, 3, 5, 8 .. -/
def leastW : Nat → Nat
  | 0 => 1
  | 1 => 2
  | n + 2 => leastW (n + 1) + leastW n
theorem leastW_pos : ∀ n, 0 < leastW n
  | 0 => by decide
  | 1 => by decide
  | n + 2 => by
    have := leastW_pos (n + 1)
    show 0 < leastW (n + 1) + leastW n
    omega
theorem leastW_step : ∀ n, leastW n < leastW (n + 1)
  | 0 => by decide
  | n + 1 => by
    have := leastW_pos n
    show leastW (n + 1) < leastW (n + 1) + leastW n
    omega
theorem leastW_mono {a b : Nat} (h : a ≤ b) : leastW a ≤ leastW b := by
  induction h with
  | refl => exact Nat.le_refl _
  | step _ ih => exact Nat.le_of_lt (Nat.lt_of_le_of_lt ih (leastW_step _))
theorem leastW_lt : ∀ n, n < leastW n
  | 0 => by decide
  | n + 1 => by
    have := leastW_lt n
    have := leastW_step n
    omega
/-- h is the greatest height of a balanced shape of the width w -/
def IsTall (w h : Nat) : Prop := w < leastW (h + 1) ∧ (h = 0 ∨ leastW h ≤ w)
theorem IsTall.le {w h g : Nat} (a : IsTall w h) (b : IsTall w g) : h ≤ g := by
  rcases a.2 with e | e
  · omega
  · refine Nat.le_of_not_lt fun l => ?_
    have := leastW_mono (show g + 1 ≤ h from l)
    have := b.1
    omega
theorem IsTall.uniq {w h g : Nat} (a : IsTall w h) (b : IsTall w g) : h = g := Nat.le_antisymm (a.le b) (b.le a)
theorem IsTall.lt {w h : Nat} (a : IsTall w h) : h ≤ w := by
  rcases a.2 with e | e
  · omega
  · have := leastW_lt h
    omega
/-- things that may be shapes -/
inductive Th where
  | one
  | pair (a b : Th)
  | other
def Th.wid : Th → Nat
  | .one => 1
  | .pair a b => a.wid + b.wid
  | .other => 0
def Th.hgt : Th → Nat
  | .one => 0
  | .pair a b => 1 + max a.hgt b.hgt
  | .other => 0
def Th.sh : Th → Bool
  | .one => true
  | .pair a b => a.sh && b.sh
  | .other => false
/-- abs(x - y), as the built-in tells it -/
def farI (x y : Int) : Int := if x - y < 0 then -(x - y) else x - y
theorem farI_lt {x y : Int} : 1 < farI x y ↔ ¬ (x ≤ y + 1 ∧ y ≤ x + 1) := by
  unfold farI
  split <;> omega
/-- the height of a balanced shape, -1 else -/
def Th.bal : Th → Int
  | .one => 0
  | .pair a b => if min a.bal b.bal < 0 ∨ 1 < farI a.bal b.bal then -1 else 1 + max a.bal b.bal
  | .other => -1
/-- the width to a height m, 0 for what is no shape -/
def Th.win : Th → Nat → Nat
  | .one, _ => 1
  | .pair a b, m + 1 => if a.win m = 0 ∨ b.win m = 0 ∨ 20000 < a.win m + b.win m then 0 else a.win m + b.win m
  | .pair _ _, 0 => 0
  | .other, _ => 0
theorem Th.win_le : ∀ (t : Th) (m : Nat), t.win m ≤ 20000
  | .one, m => by
    cases m <;> (show 1 ≤ 20000; decide)
  | .pair a b, m + 1 => by
    show (if a.win m = 0 ∨ b.win m = 0 ∨ 20000 < a.win m + b.win m then 0 else a.win m + b.win m) ≤ 20000
    split <;> omega
  | .pair _ _, 0 => Nat.zero_le _
  | .other, m => by cases m <;> exact Nat.zero_le _
theorem Th.wid_pos : ∀ (t : Th), t.sh = true → 0 < t.wid
  | .one, _ => by decide
  | .pair a b, h => by
    have h : (a.sh && b.sh) = true := h
    rw [Bool.and_eq_true] at h
    have := a.wid_pos h.1
    show 0 < a.wid + b.wid
    omega
  | .other, h => by cases h
/-- of a shape the function tells the width, of all else 0 -/
theorem Th.win_eq : ∀ (t : Th) (m : Nat), t.win m = if t.sh = true ∧ t.hgt ≤ m ∧ t.wid ≤ 20000 then t.wid else 0
  | .one, m => by cases m <;> rfl
  | .other, m => by cases m <;> rfl
  | .pair a b, 0 => by
    show 0 = _
    rw [if_neg]
    rintro ⟨_, h, _⟩
    have h : 1 + max a.hgt b.hgt ≤ 0 := h
    omega
  | .pair a b, m + 1 => by
    show (if a.win m = 0 ∨ b.win m = 0 ∨ 20000 < a.win m + b.win m then 0 else a.win m + b.win m) = if (a.sh && b.sh) = true ∧ 1 + max a.hgt b.hgt ≤ m + 1 ∧ a.wid + b.wid ≤ 20000 then a.wid + b.wid else 0
    rw [a.win_eq m, b.win_eq m]
    simp only [Bool.and_eq_true]
    by_cases ha : a.sh = true ∧ a.hgt ≤ m ∧ a.wid ≤ 20000
    · by_cases hb : b.sh = true ∧ b.hgt ≤ m ∧ b.wid ≤ 20000
      · have p1 := a.wid_pos ha.1
        have p2 := b.wid_pos hb.1
        rw [if_pos ha, if_pos hb]
        by_cases hw : a.wid + b.wid ≤ 20000
        · rw [if_neg (by omega), if_pos ⟨⟨ha.1, hb.1⟩, by omega, hw⟩]
        · rw [if_pos (by omega), if_neg (fun h => hw h.2.2)]
      · rw [if_neg hb, if_pos (.inr (.inl rfl)), if_neg]
        rintro ⟨⟨_, h1⟩, h2, h3⟩
        exact hb ⟨h1, by omega, by omega⟩
    · rw [if_neg ha, if_pos (.inl rfl), if_neg]
      rintro ⟨⟨h1, _⟩, h2, h3⟩
      exact ha ⟨h1, by omega, by omega⟩
/-- a shape that is balanced -/
def Th.isBal : Th → Bool
  | .one => true
  | .pair a b => a.isBal && b.isBal && decide (a.hgt ≤ b.hgt + 1) && decide (b.hgt ≤ a.hgt + 1)
  | .other => false
theorem Th.bal_eq : ∀ t : Th, t.bal = if t.isBal = true then (t.hgt : Int) else -1
  | .one => rfl
  | .other => rfl
  | .pair a b => by
    show (if min a.bal b.bal < 0 ∨ 1 < farI a.bal b.bal then (-1 : Int) else 1 + max a.bal b.bal) = if (a.isBal && b.isBal && decide (a.hgt ≤ b.hgt + 1) && decide (b.hgt ≤ a.hgt + 1)) = true then ((1 + max a.hgt b.hgt : Nat) : Int) else -1
    rw [a.bal_eq, b.bal_eq]
    simp only [Bool.and_eq_true, decide_eq_true_eq, farI_lt]
    by_cases ha : a.isBal = true
    · by_cases hb : b.isBal = true
      · simp only [ha, hb, if_true, true_and]
        by_cases hd : a.hgt ≤ b.hgt + 1 ∧ b.hgt ≤ a.hgt + 1
        · have h1 : ¬ (min (a.hgt : Int) b.hgt < 0 ∨ ¬ ((a.hgt : Int) ≤ b.hgt + 1 ∧ (b.hgt : Int) ≤ a.hgt + 1)) := by omega
          rw [if_neg h1, if_pos hd]
          omega
        · have h1 : (min (a.hgt : Int) b.hgt < 0 ∨ ¬ ((a.hgt : Int) ≤ b.hgt + 1 ∧ (b.hgt : Int) ≤ a.hgt + 1)) := by omega
          rw [if_pos h1, if_neg hd]
      · rw [if_neg (show ¬ (((a.isBal = true ∧ b.isBal = true) ∧ a.hgt ≤ b.hgt + 1) ∧ b.hgt ≤ a.hgt + 1) from fun h => hb h.1.1.2), if_neg hb]
        exact if_pos (.inl (by omega))
    · rw [if_neg (show ¬ (((a.isBal = true ∧ b.isBal = true) ∧ a.hgt ≤ b.hgt + 1) ∧ b.hgt ≤ a.hgt + 1) from fun h => ha h.1.1.1), if_neg ha]
      exact if_pos (.inl (by split <;> omega))
theorem Th.bal_sh : ∀ t : Th, t.isBal = true → t.sh = true
  | .one, _ => rfl
  | .other, h => by cases h
  | .pair a b, h => by
    have h : (a.isBal && b.isBal && decide (a.hgt ≤ b.hgt + 1) && decide (b.hgt ≤ a.hgt + 1)) = true := h
    simp only [Bool.and_eq_true] at h
    show (a.sh && b.sh) = true
    rw [a.bal_sh h.1.1.1, b.bal_sh h.1.1.2]
    rfl
theorem Th.least_wid : ∀ t : Th, t.isBal = true → leastW t.hgt ≤ t.wid
  | .one, _ => by decide
  | .other, h => by cases h
  | .pair a b, h => by
    have h : (a.isBal && b.isBal && decide (a.hgt ≤ b.hgt + 1) && decide (b.hgt ≤ a.hgt + 1)) = true := h
    simp only [Bool.and_eq_true, decide_eq_true_eq] at h
    have ha := a.least_wid h.1.1.1
    have hb := b.least_wid h.1.1.2
    show leastW (1 + max a.hgt b.hgt) ≤ a.wid + b.wid
    have key : ∀ m, leastW (1 + m) ≤ leastW m + leastW (m - 1) := fun m => by
      cases m with
      | zero => decide
      | succ n =>
        rw [Nat.add_comm 1 (n + 1)]
        exact Nat.le_refl _
    rcases Nat.le_total a.hgt b.hgt with l | l
    · rw [Nat.max_eq_right l]
      have := key b.hgt
      have := leastW_mono (show b.hgt - 1 ≤ a.hgt by omega)
      omega
    · rw [Nat.max_eq_left l]
      have := key a.hgt
      have := leastW_mono (show a.hgt - 1 ≤ b.hgt by omega)
      omega
/-! ### what stands for a thing -/
inductive RepTh (K : PySem.W.Frag) (H : Hp) : V → Th → Prop where
  | one : RepTh K H .non .one
  | pair {a : Addr} {v1 v2 : V} {t1 t2 : Th} : SqT K H a [v1, v2] → RepTh K H v1 t1 → RepTh K H v2 t2 → RepTh K H (.ref a) (.pair t1 t2)
  | other {v : V} {n : String} : TyX K H v (.type n) → n ∈ kinds → v ≠ .non → (n = "tuple" → ∃ a xs, v = .ref a ∧ SqT K H a xs ∧ xs.length ≠ 2) → RepTh K H v .other
theorem RepTh.keep {K : PySem.W.Frag} {H H' : Hp} {v : V} {t : Th} (e : Keep H H') (r : RepTh K H v t) : RepTh K H' v t := by
  induction r with
  | one => exact .one
  | pair h _ _ i1 i2 => exact .pair (e.seqT h) i1 i2
  | other h1 h2 h3 h4 =>
    refine .other (e.ty h1) h2 h3 fun z => ?_
    obtain ⟨a, xs, e1, e2, e3⟩ := h4 z
    exact ⟨a, xs, e1, e.seqT e2, e3⟩
/-- a shape to the height 40 and the width 20000 -/
def Th.good (t : Th) : Prop := t.sh = true ∧ t.hgt ≤ 40 ∧ t.wid ≤ 20000
instance (t : Th) : Decidable t.good := by unfold Th.good; infer_instance

/-! ### stems: row-trees of which the shape alone counts -/
def stF (l r : V) (w h : Int) : List (Str × V) := [("left", l), ("right", r), ("width", .int w), ("height", .int h)]
theorem lk_put (f g : Str) (y : V) (fs : List (Str × V)) : ((f, y) :: fs).lookup g = if g = f then some y else fs.lookup g := lookup_put f g y fs
theorem stF_left {l r : V} {w h : Int} : (stF l r w h).lookup ("left" : Str) = some l := by
  unfold stF
  rw [lk_put, if_pos rfl]
theorem stF_right {l r : V} {w h : Int} : (stF l r w h).lookup ("right" : Str) = some r := by
  unfold stF
  rw [lk_put, if_neg (by decide +kernel), lk_put, if_pos rfl]
theorem stF_width {l r : V} {w h : Int} : (stF l r w h).lookup ("width" : Str) = some (V.int w) := by
  unfold stF
  rw [lk_put, if_neg (by decide +kernel), lk_put, if_neg (by decide +kernel), lk_put, if_pos rfl]
theorem stF_height {l r : V} {w h : Int} : (stF l r w h).lookup ("height" : Str) = some (V.int h) := by
  unfold stF
  rw [lk_put, if_neg (by decide +kernel), lk_put, if_neg (by decide +kernel), lk_put, if_neg (by decide +kernel), lk_put, if_pos rfl]
theorem pf_cons {f g : Str} {v x : V} {fs : List (Str × V)} (h : ¬ g = f) : putF f v ((g, x) :: fs) = (g, x) :: putF f v fs := if_neg h
theorem pf1 (l : V) : putF "left" l [] = [(("left" : Str), l)] := rfl
theorem pf2 (l r : V) : putF "right" r [(("left" : Str), l)] = [(("left" : Str), l), (("right" : Str), r)] := by rw [pf_cons (by decide +kernel)]; rfl
theorem pf3 (l r w : V) : putF "width" w [(("left" : Str), l), (("right" : Str), r)] = [(("left" : Str), l), (("right" : Str), r), (("width" : Str), w)] := by rw [pf_cons (by decide +kernel), pf_cons (by decide +kernel)]; rfl
theorem pf4 (l r w h : V) : putF "height" h [(("left" : Str), l), (("right" : Str), r), (("width" : Str), w)] = [(("left" : Str), l), (("right" : Str), r), (("width" : Str), w), (("height" : Str), h)] := by rw [pf_cons (by decide +kernel), pf_cons (by decide +kernel), pf_cons (by decide +kernel)]; rfl
/-- at a: a tree of the shape t -/
inductive StAt (C : Addr) (H : Hp) : V → Th → Prop where
  | one {a dx : Addr} : H a = some (.ins C dx (stF .non .non 1 0)) → StAt C H (.ref a) .one
  | pair {a dx : Addr} {v1 v2 : V} {t1 t2 : Th} : H a = some (.ins C dx (stF v1 v2 ((t1.wid + t2.wid : Nat) : Int) ((1 + max t1.hgt t2.hgt : Nat) : Int))) → StAt C H v1 t1 → StAt C H v2 t2 → StAt C H (.ref a) (.pair t1 t2)
theorem StAt.at_ {C : Addr} {H : Hp} {v : V} {t : Th} (h : StAt C H v t) : ∃ a dx l r, v = .ref a ∧ H a = some (.ins C dx (stF l r (t.wid : Int) (t.hgt : Int))) := by
  cases h with
  | one h => exact ⟨_, _, _, _, rfl, h⟩
  | pair h _ _ => exact ⟨_, _, _, _, rfl, h⟩
theorem StAt.mono {C : Addr} {H H' : Hp} {v : V} {t : Th} (s : ∀ a dx l r w h, H a = some (.ins C dx (stF l r w h)) → H' a = some (.ins C dx (stF l r w h))) (h : StAt C H v t) : StAt C H' v t := by
  induction h with
  | one h => exact .one (s _ _ _ _ _ _ h)
  | pair h _ _ i1 i2 => exact .pair (s _ _ _ _ _ _ h) i1 i2
theorem StAt.same {C : Addr} {H H' : Hp} {v : V} {t : Th} (h : StAt C H v t) (s : Same H H') : StAt C H' v t := h.mono fun a _ _ _ _ _ e => s a _ e
theorem StAt.keep {C : Addr} {H H' : Hp} {v : V} {t : Th} (h : StAt C H v t) (s : Keep H H') : StAt C H' v t := h.mono fun a _ _ _ _ _ e => by
  rcases s a _ e with e1 | ⟨_, _, e1, _⟩
  · exact e1
  · cases e1
/-- behind a store at an instance that is not finished -/
theorem StAt.off {C D : Addr} {H : Hp} {p dx : Addr} {fs : List (Str × V)} {o : HO} {v : V} {t : Th} (h : StAt C H v t) (hp : H p = some (.ins D dx fs)) (hl : fs.length < 4) : StAt C (upd H p o) v t := h.mono fun a dy l r w h e => by
  have n : a ≠ p := fun z => by
    rw [z, hp] at e
    injection e with e
    injection e with e1 e2 e3
    rw [e3] at hl
    exact absurd hl (by show ¬ (4 < 4); decide)
  rw [upd_ne n]
  exact e
theorem StAt.ne {C D : Addr} {H : Hp} {p dx a dy : Addr} {fs : List (Str × V)} {l r : V} {w h : Int} (hp : H p = some (.ins D dx fs)) (hl : fs.length < 4) (e : H a = some (.ins C dy (stF l r w h))) : a ≠ p := fun z => by
  rw [z, hp] at e
  injection e with e
  injection e with e1 e2 e3
  rw [e3] at hl
  exact absurd hl (by show ¬ (4 < 4); decide)
theorem StAt.sh {C : Addr} {H : Hp} {v : V} {t : Th} (h : StAt C H v t) : t.sh = true := by
  induction h with
  | one _ => rfl
  | pair _ _ _ i1 i2 =>
    show (_ && _) = true
    rw [i1, i2]
    rfl
theorem upd_upd {H : Hp} {p : Addr} {o u : HO} : upd (upd H p o) p u = upd H p u := by
  funext b
  by_cases h : b = p
  · rw [h, upd_same, upd_same]
  · rw [upd_ne h, upd_ne h, upd_ne h]

/-! ### even halves -/
def blen (n : Nat) : Nat := if n = 0 then 0 else n.log2 + 1
theorem blen_half {m : Nat} (h : 0 < m) : blen m = 1 + blen (m / 2) := by
  unfold blen
  rw [if_neg (by omega), Nat.log2_def]
  by_cases c : m < 2
  · rw [if_neg (by omega), if_pos (by omega)]
  · rw [if_pos (by omega), if_neg (by omega)]
    omega
theorem blen_mono {a b : Nat} (h : a ≤ b) : blen a ≤ blen b := by
  unfold blen
  split
  · omega
  · rw [if_neg (by omega)]
    have := log2_le_of h
    omega
theorem blen_int (n : Nat) : Builtin.Int.intBits (n : Int) = blen n := by
  unfold Builtin.Int.intBits blen
  by_cases c : n = 0
  · subst c
    rfl
  · rw [if_neg c, if_neg (by simp; omega)]
    rfl
def evT (n : Nat) : Th := if h : n < 2 then .one else .pair (evT ((n + 1) / 2)) (evT (n / 2))
termination_by n
decreasing_by all_goals omega
theorem evT_one {n : Nat} (h : n < 2) : evT n = .one := by
  conv => lhs; rw [evT]
  rw [dif_pos h]
theorem evT_two {n : Nat} (h : 2 ≤ n) : evT n = .pair (evT ((n + 1) / 2)) (evT (n / 2)) := by
  conv => lhs; rw [evT]
  rw [dif_neg (by omega)]
theorem evT_wid {n : Nat} : 1 ≤ n → (evT n).wid = n := by
  induction n using Nat.strongRecOn with
  | ind n ih =>
    intro h
    by_cases c : n < 2
    · rw [evT_one c]
      show 1 = n
      omega
    · rw [evT_two (by omega)]
      show (evT ((n + 1) / 2)).wid + (evT (n / 2)).wid = n
      rw [ih _ (by omega) (by omega), ih _ (by omega) (by omega)]
      omega
theorem evT_hgt {n : Nat} : 1 ≤ n → (evT n).hgt = blen (n - 1) := by
  induction n using Nat.strongRecOn with
  | ind n ih =>
    intro h
    by_cases c : n < 2
    · rw [evT_one c, show n = 1 by omega]
      rfl
    · rw [evT_two (by omega)]
      show 1 + max (evT ((n + 1) / 2)).hgt (evT (n / 2)).hgt = blen (n - 1)
      rw [ih _ (by omega) (by omega), ih _ (by omega) (by omega), blen_half (show 0 < n - 1 by omega)]
      have h1 := blen_mono (show n / 2 - 1 ≤ (n + 1) / 2 - 1 by omega)
      rw [Nat.max_eq_left h1, show (n + 1) / 2 - 1 = (n - 1) / 2 by omega]
theorem evT_bal {n : Nat} : 1 ≤ n → (evT n).isBal = true := by
  induction n using Nat.strongRecOn with
  | ind n ih =>
    intro h
    by_cases c : n < 2
    · rw [evT_one c]
      rfl
    · rw [evT_two (by omega)]
      show ((evT ((n + 1) / 2)).isBal && (evT (n / 2)).isBal && decide ((evT ((n + 1) / 2)).hgt ≤ (evT (n / 2)).hgt + 1) && decide ((evT (n / 2)).hgt ≤ (evT ((n + 1) / 2)).hgt + 1)) = true
      rw [ih _ (by omega) (by omega), ih _ (by omega) (by omega), evT_hgt (show 1 ≤ (n + 1) / 2 by omega), evT_hgt (show 1 ≤ n / 2 by omega)]
      have h1 := blen_mono (show n / 2 - 1 ≤ (n + 1) / 2 - 1 by omega)
      have h2 : blen ((n + 1) / 2 - 1) ≤ blen (n / 2 - 1) + 1 := by
        have h3 := blen_half (show 0 < 2 * (n / 2 - 1) + 1 by omega)
        rw [show (2 * (n / 2 - 1) + 1) / 2 = n / 2 - 1 by omega] at h3
        have h4 := blen_mono (show (n + 1) / 2 - 1 ≤ 2 * (n / 2 - 1) + 1 by omega)
        omega
      rw [decide_eq_true h2, decide_eq_true (show blen (n / 2 - 1) ≤ blen ((n + 1) / 2 - 1) + 1 by omega)]
      rfl
theorem evT_sh {n : Nat} (h : 1 ≤ n) : (evT n).sh = true := Th.bal_sh _ (evT_bal h)
theorem evT_hgt_le {n : Nat} (h : 1 ≤ n) (h2 : n ≤ 20000) : (evT n).hgt ≤ 15 := by
  rw [evT_hgt h]
  exact Nat.le_trans (blen_mono (show n - 1 ≤ 20000 by omega)) (by decide)
/-! ### shapes as data -/
def shD : Th → PyData
  | .one => .none
  | .pair a b => .tuple [shD a, shD b]
  | .other => .none
theorem RepTh.dp {K : PySem.W.Frag} {H : Hp} {v : V} {t : Th} (r : RepTh K H v t) : t.sh = true → Dp K H v (shD t) := by
  induction r with
  | one => exact fun _ => .non
  | other => exact fun h => by cases h
  | @pair a v1 v2 t1 t2 h _ _ i1 i2 =>
    intro sh
    have sh : (t1.sh && t2.sh) = true := sh
    rw [Bool.and_eq_true] at sh
    exact .tup h (.cons (i1 sh.1) (.cons (i2 sh.2) .nil))
theorem shD_lay : ∀ t : Th, (shD t).canLay0 = true
  | .one => rfl
  | .other => rfl
  | .pair a b => by
    show (PyData.tuple [shD a, shD b]).canLay0 = true
    simp [PyData.canLay0, PyData.canLayAll0, shD_lay a, shD_lay b]
theorem shD_depth : ∀ t : Th, (shD t).depth ≤ t.hgt
  | .one => by
    show PyData.depth .none ≤ 0
    simp [PyData.depth]
  | .other => by
    show PyData.depth .none ≤ 0
    simp [PyData.depth]
  | .pair a b => by
    have := shD_depth a
    have := shD_depth b
    show (PyData.tuple [shD a, shD b]).depth ≤ 1 + max a.hgt b.hgt
    simp only [PyData.depth, PyData.depthAll]
    omega
theorem shD_shaped {t : Th} (h : t.hgt ≤ 64) : SeqAt.shaped (shD t) = true := by
  have := shD_depth t
  unfold SeqAt.shaped
  rw [shD_lay, decide_eq_true (by omega)]
  rfl
theorem shD_eqv (t : Th) : PyData.eqv (shD t) (shD t) = true := SeqAt.eqv_refl _ (shD_lay t)
/-- a shape stands, whatever becomes of a dict -/
theorem RepTh.off {K : PySem.W.Frag} {H H' : Hp} {p : Addr} {kvs : List (Key × V)} {v : V} {t : Th} (b : But p H H') (hp : H p = some (.dK kvs)) (r : RepTh K H v t) : t.sh = true → RepTh K H' v t := by
  induction r with
  | one => exact fun _ => .one
  | other => exact fun h => by cases h
  | @pair a v1 v2 t1 t2 h _ _ i1 i2 =>
    intro sh
    have sh : (t1.sh && t2.sh) = true := sh
    rw [Bool.and_eq_true] at sh
    refine .pair ?_ (i1 sh.1) (i2 sh.2)
    rcases h with (h | ⟨o, h⟩) | h
    · exact .inl (.inl (b _ _ (ne_of h hp (fun z => by cases z)) h))
    · exact .inl (.inr ⟨o, b _ _ (ne_of h hp (fun z => by cases z)) h⟩)
    · exact .inr h
/-- what is known of even shapes -/
structure EvAt (K : PySem.W.Frag) (H : Hp) (kvs : List (Key × V)) : Prop where
  one : valV kvs (.inl 1) = some .non
  all_ : ∀ k v, valV kvs k = some v → ∃ n : Nat, k = .inl n ∧ 1 ≤ n ∧ RepTh K H v (evT n)
theorem EvAt.same {K : PySem.W.Frag} {H H' : Hp} {kvs : List (Key × V)} (e : EvAt K H kvs) (s : Same H H') : EvAt K H' kvs := ⟨e.one, fun k v h => by
  obtain ⟨n, h1, h2, h3⟩ := e.all_ k v h
  exact ⟨n, h1, h2, h3.keep (Keep.of s)⟩⟩

/-! ### what a thing raises where a balanced shape is wanted -/
def trS (t : Th) : Str := if t.sh = true then (if t.isBal = true then "" else "BadBalance") else "BadShape"
theorem trS_cases (t : Th) : (t.sh = false ∧ trS t = "BadShape") ∨ (t.sh = true ∧ t.isBal = false ∧ trS t = "BadBalance") ∨ (t.sh = true ∧ t.isBal = true ∧ trS t = "") := by
  unfold trS
  cases t.sh <;> cases t.isBal <;> first | exact .inl ⟨rfl, rfl⟩ | exact .inr (.inl ⟨rfl, rfl, rfl⟩) | exact .inr (.inr ⟨rfl, rfl, rfl⟩)
theorem trS_ok {t : Th} (h : trS t = "") : t.sh = true ∧ t.isBal = true := by
  rcases trS_cases t with ⟨e1, e⟩ | ⟨e1, e2, e⟩ | ⟨e1, e2, e⟩
  · rw [e] at h; exact absurd h (by decide +kernel)
  · rw [e] at h; exact absurd h (by decide +kernel)
  · exact ⟨e1, e2⟩
theorem Th.wid_pow : ∀ t : Th, t.wid ≤ 2 ^ t.hgt
  | .one => by decide
  | .other => by decide
  | .pair a b => by
    have h1 := a.wid_pow
    have h2 := b.wid_pow
    have m1 := Nat.pow_le_pow_right (show 0 < 2 by decide) (Nat.le_max_left a.hgt b.hgt)
    have m2 := Nat.pow_le_pow_right (show 0 < 2 by decide) (Nat.le_max_right a.hgt b.hgt)
    show a.wid + b.wid ≤ 2 ^ (1 + max a.hgt b.hgt)
    rw [Nat.add_comm 1, Nat.pow_succ]
    omega
/-- a shape or a near one -/
def TwoAt (K : PySem.W.Frag) (H : Hp) (u : V) (t : Th) : Prop := RepTh K H u t ∧ t.hgt ≤ 20 ∧ (t.sh = true → t.wid ≤ 20000)
theorem twoAt {K : PySem.W.Frag} {H : Hp} {v : V} {t : Th} (r : RepTh K H v t) (h : t.hgt ≤ 14) : TwoAt K H v t := ⟨r, by omega, fun _ => by
  have h1 := t.wid_pow
  have h2 := Nat.pow_le_pow_right (show 0 < 2 by decide) h
  have h3 : (2 : Nat) ^ 14 = 16384 := by decide
  omega⟩
theorem TwoAt.good {K : PySem.W.Frag} {H : Hp} {v : V} {t : Th} (T : TwoAt K H v t) (h : t.sh = true) : t.good := ⟨h, by have := T.2.1; omega, T.2.2 h⟩
theorem TwoAt.keep {K : PySem.W.Frag} {H H' : Hp} {v : V} {t : Th} (k : Keep H H') (T : TwoAt K H v t) : TwoAt K H' v t := ⟨T.1.keep k, T.2⟩
/-! ### data of a word and shapes -/
def paD : Option Th → PyData
  | none => .tuple []
  | some t => shD t
def hgtP : Option Th → Nat
  | none => 0
  | some t => t.hgt
theorem paD_lay (p : Option Th) : (paD p).canLay0 = true := by
  cases p with
  | none => rfl
  | some t => exact shD_lay t
theorem paD_depth (p : Option Th) : (paD p).depth ≤ hgtP p + 1 := by
  cases p with
  | none =>
    show (PyData.tuple []).depth ≤ 1
    simp [PyData.depth, PyData.depthAll]
  | some t =>
    have := shD_depth t
    show (shD t).depth ≤ t.hgt + 1
    omega
theorem shaped_of {d : PyData} (h1 : d.canLay0 = true) (h2 : d.depth ≤ 64) : SeqAt.shaped d = true := by
  unfold SeqAt.shaped
  rw [h1, decide_eq_true h2]
  rfl

/-! ### thing == () -/
/-- no tuple, of a known kind -/
inductive NonT (K : PySem.W.Frag) (H : Hp) : V → Prop where
  | non : NonT K H .non
  | bl (b : Bool) : NonT K H (.bl b)
  | int (i : Int) : NonT K H (.int i)
  | str (x : Str) (h : PyData.strOk x = true) : NonT K H (.str x)
  | lst {a : Addr} {xs : List V} (h : SqL K H a xs) : NonT K H (.ref a)
  | dic {a : Addr} {kvs : List (Key × V)} (h : H a = some (.dK kvs)) : NonT K H (.ref a)
theorem NonT.keep {K : PySem.W.Frag} {H H' : Hp} {v : V} (k : Keep H H') (h : NonT K H v) : NonT K H' v := by
  cases h with
  | non => exact .non
  | bl b => exact .bl b
  | int i => exact .int i
  | str x h => exact .str x h
  | lst h =>
    rcases h with (h | ⟨o, h⟩) | h
    · rcases k _ _ h with e | ⟨_, ys, _, e⟩
      · exact .lst (.inl (.inl e))
      · exact .lst (.inl (.inl e))
    · rcases k _ _ h with e | ⟨_, _, z, _⟩
      · exact .lst (.inl (.inr ⟨o, e⟩))
      · cases z
    · exact .lst (.inr h)
  | dic h =>
    rcases k _ _ h with e | ⟨_, _, z, _⟩
    · exact .dic e
    · cases z
/-- a thing that is asked for () -/
inductive EmpQ (K : PySem.W.Frag) (H : Hp) : V → Bool → Prop where
  | tup {a : Addr} {xs : List V} (h : SqT K H a xs) : EmpQ K H (.ref a) xs.isEmpty
  | oth {v : V} (h : NonT K H v) : EmpQ K H v false
theorem EmpQ.keep {K : PySem.W.Frag} {H H' : Hp} {v : V} {b : Bool} (k : Keep H H') (h : EmpQ K H v b) : EmpQ K H' v b := by
  cases h with
  | tup h => exact .tup (k.seqT h)
  | oth h => exact .oth (h.keep k)
def rEqE (K : PySem.W.Frag) : R2 := fun x y H Q => ∃ b r, y = .ref b ∧ SqT K H b [] ∧ EmpQ K H x r ∧ Q (.bl r) H
def rNeE (K : PySem.W.Frag) : R2 := fun x y H Q => ∃ b r, y = .ref b ∧ SqT K H b [] ∧ EmpQ K H x r ∧ Q (.bl (!r)) H
theorem dict_eq_declines (M : Model) (A : Around) (l b : Addr) {s : Shared} {Q : Value → Shared → Prop} {E : Value → Shared → Prop} {prog : Program} {w : World} (hM : M = model prog w) (hl : s.TypeIs (.ref l) "dict") (hb : s.TypeIs (.ref b) "tuple") (h : Q .notImplemented s) :
    wpAny M A (call (.builtin "dict.__eq__") [.ref l, .ref b]) Q E s := by
  subst hM
  refine wpAny_call_entry PySem.F.slot_dict_eq hl PySem.F.entry_dict_eq ?_ (PySem.F.args_dict_eq_2 _ _)
  show wpAny _ _ (Builtin.Dict.dictSlotArgs "__eq__" ⟨[.ref l, .ref b], []⟩ >>= _) _ _ s
  refine wpAny_bind ?_
  unfold Builtin.Dict.dictSlotArgs
  refine wpAny_bind (wpAny_notOrdered_dict hl ?_)
  show wpAny _ _ (pure (Value.ref l, Value.ref b)) _ _ s
  refine wpAny_pure ?_
  refine wpAny_bind (wpAny_isInstance (T := "tuple") hb PySem.F.sub_tuple_dict ?_)
  simp only [Bool.not_false, if_true]
  refine wpAny_bind (wpAny_rule ?_)
  exact wpAny_bind (wpAny_pure (wpAny_pure ⟨_, rfl, h⟩))
theorem dict_ne_declines (M : Model) (A : Around) (l b : Addr) {s : Shared} {Q : Value → Shared → Prop} {E : Value → Shared → Prop} {prog : Program} {w : World} (hM : M = model prog w) (hl : s.TypeIs (.ref l) "dict") (hb : s.TypeIs (.ref b) "tuple") (h : Q .notImplemented s) :
    wpAny M A (call (.builtin "dict.__ne__") [.ref l, .ref b]) Q E s := by
  subst hM
  refine wpAny_call_entry PySem.F.slot_dict_ne hl PySem.F.entry_dict_ne ?_ (PySem.F.args_dict_ne_2 _ _)
  show wpAny _ _ (Builtin.Dict.dictSlotArgs "__ne__" ⟨[.ref l, .ref b], []⟩ >>= _) _ _ s
  refine wpAny_bind ?_
  unfold Builtin.Dict.dictSlotArgs
  refine wpAny_bind (wpAny_notOrdered_dict hl ?_)
  show wpAny _ _ (pure (Value.ref l, Value.ref b)) _ _ s
  refine wpAny_pure ?_
  refine wpAny_bind (wpAny_isInstance (T := "tuple") hb PySem.F.sub_tuple_dict ?_)
  simp only [Bool.not_false, if_true]
  refine wpAny_bind (wpAny_rule ?_)
  exact wpAny_bind (wpAny_pure (wpAny_pure ⟨_, rfl, h⟩))
theorem tuple_eq_declines_dict (l b : Addr) (items : Array Value) (n : Nat) (dd dd2 : Option Addr) (sl sl2 : Array (Option Value)) (D : Data) :
    Meets (Builtin.«tuple.__eq__» ⟨[.ref l, .ref b], []⟩) (fun _ R s => s.heap.get? l = some { cls := .type "tuple", dict := dd, data := .seq items n, slots := sl } ∧ s.heap.get? b = some { cls := .type "dict", dict := dd2, data := D, slots := sl2 } ∧ R (.ok (.ret .notImplemented)) s) :=
  .of_wp fun prog w A R s h => by obtain ⟨hp, g, d, tk, os⟩ := s; obtain ⟨hl, hb, h⟩ := h; have f1 := F.sub_dict_tuple; wp_walk using wpAny_loadPart' hl, wpAny_loadPart' hb; exact ⟨_, rfl, h⟩
theorem tuple_ne_declines_dict (l b : Addr) (items : Array Value) (n : Nat) (dd dd2 : Option Addr) (sl sl2 : Array (Option Value)) (D : Data) :
    Meets (Builtin.«tuple.__ne__» ⟨[.ref l, .ref b], []⟩) (fun _ R s => s.heap.get? l = some { cls := .type "tuple", dict := dd, data := .seq items n, slots := sl } ∧ s.heap.get? b = some { cls := .type "dict", dict := dd2, data := D, slots := sl2 } ∧ R (.ok (.ret .notImplemented)) s) :=
  .of_wp fun prog w A R s h => by obtain ⟨hp, g, d, tk, os⟩ := s; obtain ⟨hl, hb, h⟩ := h; have f1 := F.sub_dict_tuple; wp_walk using wpAny_loadPart' hl, wpAny_loadPart' hb; exact ⟨_, rfl, h⟩
theorem ne_of_dict_tuple {s : Shared} {l b : Addr} {items : Array Value} (hl : s.TypeIs (.ref l) "dict") (hb : s.heap.IsTuple b items) : l ≠ b := fun e => by
  subst e
  obtain ⟨o, ho, hc⟩ := hl
  obtain ⟨o2, ho2, hc2, _⟩ := hb
  rw [ho] at ho2
  cases ho2
  rw [hc] at hc2
  exact absurd hc2 (by simp)
section
open PySem.SeqAt
theorem rc_dict_tuple {A : Around} {s : Shared} {l b : Addr} {items : Array Value} (hl : s.TypeIs (.ref l) "dict") (hb : s.heap.IsTuple b items) (hu : A.units < cLine) : RcAt A s (.ref l) (.ref b) false := fun prog w E Q h => by
  have hne := ne_of_dict_tuple hl hb
  obtain ⟨⟨cls, dd, data, sl⟩, ho, hc⟩ := id hl
  obtain ⟨⟨cls2, dd2, data2, sl2⟩, ho2, hc2, n2, hd2⟩ := id hb
  simp only at hc hc2 hd2
  subst hc hc2 hd2
  exact (rc_eq_decline_or (k := false) ⟨_, ho, rfl⟩ ⟨_, ho2, rfl⟩ (by decide) F.sub_tuple_dict F.slot_dict_eq F.slot_tuple_eq_refl
    (fun _ hq => dict_eq_declines _ _ l b rfl hl ⟨_, ho2, rfl⟩ hq)
    (fun _ hq => call_meets F.slot_tuple_eq_refl ⟨_, ho2, rfl⟩ F.entry_tuple_eq (F.args_tuple_eq_2 _ _) (tuple_eq_declines_dict b l items n2 dd2 dd sl2 sl data) ⟨ho2, ho, hq⟩)
    (fun _ hq => wpAny_isSame_ref_other hne ho ho2 (by simp) hq) (.inr hu) h)
theorem rc_dict_tuple_ne {A : Around} {s : Shared} {l b : Addr} {items : Array Value} (hl : s.TypeIs (.ref l) "dict") (hb : s.heap.IsTuple b items) (hu : A.units < cLine) : RcNeAt A s (.ref l) (.ref b) true := fun prog w E Q h => by
  have hne := ne_of_dict_tuple hl hb
  obtain ⟨⟨cls, dd, data, sl⟩, ho, hc⟩ := id hl
  obtain ⟨⟨cls2, dd2, data2, sl2⟩, ho2, hc2, n2, hd2⟩ := id hb
  simp only at hc hc2 hd2
  subst hc hc2 hd2
  exact (rc_ne_decline_or (k := false) ⟨_, ho, rfl⟩ ⟨_, ho2, rfl⟩ (by decide) F.sub_tuple_dict F.slot_dict_ne F.slot_tuple_ne_refl
    (fun _ hq => dict_ne_declines _ _ l b rfl hl ⟨_, ho2, rfl⟩ hq)
    (fun _ hq => call_meets F.slot_tuple_ne_refl ⟨_, ho2, rfl⟩ F.entry_tuple_ne (F.args_tuple_ne_2 _ _) (tuple_ne_declines_dict b l items n2 dd2 dd sl2 sl data) ⟨ho2, ho, hq⟩)
    (fun _ hq => wpAny_isSame_ref_other hne ho ho2 (by simp) hq) (.inr hu) h)
end
theorem nonT_dp {K : PySem.W.Frag} {H : Hp} {v : V} (h : NonT K H v) : (∃ d, Dp K H v d ∧ SeqAt.shaped d = true ∧ PyData.eqv d (.tuple []) = false) ∨ (∃ a xs, v = .ref a ∧ SqL K H a xs) ∨ ∃ a kvs, v = .ref a ∧ H a = some (.dK kvs) := by
  cases h with
  | non => exact .inl ⟨_, .non, rfl, by simp [PyData.eqv]⟩
  | bl b => exact .inl ⟨_, .bl b, rfl, by simp [PyData.eqv]⟩
  | int i => exact .inl ⟨_, .int i, rfl, by simp [PyData.eqv]⟩
  | str x h => exact .inl ⟨_, .str x, by simp [SeqAt.shaped, PyData.canLay0, PyData.depth, h], by simp [PyData.eqv]⟩
  | lst h => exact .inr (.inl ⟨_, _, rfl, h⟩)
  | dic h => exact .inr (.inr ⟨_, _, rfl, h⟩)
section
open PySem.SeqAt
variable {X : Cx}
theorem op_eqE (hu : X.A.units + 64 < cLine) : OpR X (compareOp .Eq) (rEqE X.K) := by
  intro pins s σ H x y v u Q I rx ry h
  obtain ⟨b, r, rfl, hb, hx, q⟩ := h
  have hu' : X.A.units < cLine := by omega
  have ry0 := ry
  cases (show u = Value.ref b from ry)
  obtain ⟨ib, rvb, hbT, hzb⟩ := I.tuple hb
  cases rvb
  cases hx with
  | tup ha =>
    rename_i a xs
    cases (show v = Value.ref a from rx)
    obtain ⟨ia, rva, haT, hza⟩ := I.tuple ha
    have hl := rva.length
    have e : ((List.range (min ia.toArray.size ([] : List Value).toArray.size)).all (fun _ => true) && ia.toArray.size == ([] : List Value).toArray.size) = xs.isEmpty := by
      cases xs with
      | nil => cases rva; rfl
      | cons x xs => cases rva; simp
    exact RcAt.tuples (e := fun _ => true) haT hbT hu' (fun j h1 h2 => absurd h2 (Nat.not_lt_zero _)) _ _ _ _ (by rw [e]; exact ⟨.bl _, H, I, rfl, q⟩)
  | oth hn =>
    rcases nonT_dp hn with ⟨d, hd, sd, ed⟩ | ⟨a, xs, rfl, ha⟩ | ⟨a, kvs, rfl, ha⟩
    · exact op_eqD hu pins s σ H x (.ref b) v (.ref b) Q I rx ry0 ⟨d, .tuple [], hd, .tup hb .nil, sd, rfl, by rw [ed]; exact q⟩
    · cases (show v = Value.ref a from rx)
      obtain ⟨ia, rva, haL, hza⟩ := I.list ha
      exact RcAt.list_tuple haL.isList hbT hu' _ _ _ _ ⟨.bl _, H, I, rfl, q⟩
    · cases (show v = Value.ref a from rx)
      obtain ⟨z, hd, vs0, r0, dd⟩ := dk_of I.hok ha
      exact rc_dict_tuple dd.typeIs hbT hu' _ _ _ _ ⟨.bl _, H, I, rfl, q⟩
theorem op_neE (hu : X.A.units + 64 < cLine) : OpR X (compareOp .NotEq) (rNeE X.K) := by
  intro pins s σ H x y v u Q I rx ry h
  obtain ⟨b, r, rfl, hb, hx, q⟩ := h
  have hu' : X.A.units < cLine := by omega
  have ry0 := ry
  cases (show u = Value.ref b from ry)
  obtain ⟨ib, rvb, hbT, hzb⟩ := I.tuple hb
  cases rvb
  cases hx with
  | tup ha =>
    rename_i a xs
    cases (show v = Value.ref a from rx)
    obtain ⟨ia, rva, haT, hza⟩ := I.tuple ha
    have hl := rva.length
    have e : ((List.range (min ia.toArray.size ([] : List Value).toArray.size)).all (fun _ => true) && ia.toArray.size == ([] : List Value).toArray.size) = xs.isEmpty := by
      cases xs with
      | nil => cases rva; rfl
      | cons x xs => cases rva; simp
    exact RcNeAt.tuples (e := fun _ => true) haT hbT hu' (fun j h1 h2 => absurd h2 (Nat.not_lt_zero _)) _ _ _ _ (by rw [e]; exact ⟨.bl _, H, I, rfl, q⟩)
  | oth hn =>
    rcases nonT_dp hn with ⟨d, hd, sd, ed⟩ | ⟨a, xs, rfl, ha⟩ | ⟨a, kvs, rfl, ha⟩
    · exact op_neD hu pins s σ H x (.ref b) v (.ref b) Q I rx ry0 ⟨d, .tuple [], hd, .tup hb .nil, sd, rfl, by rw [ed]; exact q⟩
    · cases (show v = Value.ref a from rx)
      obtain ⟨ia, rva, haL, hza⟩ := I.list ha
      exact RcNeAt.list_tuple haL.isList hbT hu' _ _ _ _ ⟨.bl _, H, I, rfl, q⟩
    · cases (show v = Value.ref a from rx)
      obtain ⟨z, hd, vs0, r0, dd⟩ := dk_of I.hok ha
      exact rc_dict_tuple_ne dd.typeIs hbT hu' _ _ _ _ ⟨.bl _, H, I, rfl, q⟩
end

/-! ### things with what is due -/
theorem good_pair {a b : Th} : (Th.pair a b).good ↔ a.good ∧ b.good ∧ a.wid + b.wid ≤ 20000 ∧ 1 + max a.hgt b.hgt ≤ 40 := by
  constructor
  · rintro ⟨h1, h2, h3⟩
    have h1 : (a.sh && b.sh) = true := h1
    rw [Bool.and_eq_true] at h1
    have h2 : 1 + max a.hgt b.hgt ≤ 40 := h2
    have h3 : a.wid + b.wid ≤ 20000 := h3
    exact ⟨⟨h1.1, by omega, by omega⟩, ⟨h1.2, by omega, by omega⟩, h3, h2⟩
  · rintro ⟨h1, h2, h3, h4⟩
    exact ⟨by show (a.sh && b.sh) = true; rw [h1.1, h2.1]; rfl, h4, h3⟩
def DueAt (K : PySem.W.Frag) (H : Hp) (d : V) (t : Th) : Prop := (¬ t.good ∧ d = .non) ∨ (t.good ∧ ∃ b, d = .ref b ∧ SqT K H b [.int (t.wid : Nat), .int (t.hgt : Nat), .bl t.isBal])
theorem DueAt.mono {K : PySem.W.Frag} {H H' : Hp} {d : V} {t : Th} (s : ∀ a xs, SqT K H a xs → SqT K H' a xs) (h : DueAt K H d t) : DueAt K H' d t := by
  rcases h with h | ⟨h, b, e, h2⟩
  · exact .inl h
  · exact .inr ⟨h, b, e, s _ _ h2⟩
def ThAt (K : PySem.W.Frag) (H : Hp) (u d : V) (t : Th) : Prop := RepTh K H u t ∧ (∃ em, EmpQ K H u em) ∧ DueAt K H d t
theorem ThAt.keep {K : PySem.W.Frag} {H H' : Hp} {u d : V} {t : Th} (k : Keep H H') (h : ThAt K H u d t) : ThAt K H' u d t := by
  obtain ⟨h1, ⟨em, h2⟩, h3⟩ := h
  exact ⟨h1.keep k, ⟨em, h2.keep k⟩, h3.mono fun a xs z => k.seqT z⟩
def PairAt (K : PySem.W.Frag) (H : Hp) (v : V) (t : Th) : Prop := ∃ a u d, v = .ref a ∧ SqT K H a [u, d] ∧ ThAt K H u d t
theorem PairAt.keep {K : PySem.W.Frag} {H H' : Hp} {v : V} {t : Th} (k : Keep H H') (h : PairAt K H v t) : PairAt K H' v t := by
  obtain ⟨a, u, d, e, h1, h2⟩ := h
  exact ⟨a, u, d, e, k.seqT h1, h2.keep k⟩
/-- a shape stands, whatever becomes of a dict -/
theorem seqT_offD {K : PySem.W.Frag} {H H' : Hp} {p : Addr} {kvs : List (Key × V)} {a : Addr} {xs : List V} (b : But p H H') (hp : H p = some (.dK kvs)) (h : SqT K H a xs) : SqT K H' a xs := by
  rcases h with (h | ⟨o, h⟩) | h
  · exact .inl (.inl (b _ _ (ne_of h hp (fun z => by cases z)) h))
  · exact .inl (.inr ⟨o, b _ _ (ne_of h hp (fun z => by cases z)) h⟩)
  · exact .inr h
theorem RepTh.emp {K : PySem.W.Frag} {H : Hp} {v : V} {t : Th} (r : RepTh K H v t) (h : t.sh = true) : EmpQ K H v false := by
  cases r with
  | one => exact .oth .non
  | other => cases h
  | pair h1 _ _ => exact .tup (xs := [_, _]) h1
theorem PairAt.off {K : PySem.W.Frag} {H H' : Hp} {p : Addr} {kvs : List (Key × V)} {v : V} {t : Th} (b : But p H H') (hp : H p = some (.dK kvs)) (sh : t.sh = true) (h : PairAt K H v t) : PairAt K H' v t := by
  obtain ⟨a, u, d, e, h1, h2, _, h3⟩ := h
  have r := h2.off b hp sh
  exact ⟨a, u, d, e, seqT_offD b hp h1, r, ⟨_, r.emp sh⟩, h3.mono fun a xs z => seqT_offD b hp z⟩
theorem child_at {K : PySem.W.Frag} {H : Hp} {a b : Addr} (h1 : SqT K H b [.int 1, .int 0, .bl true]) (h2 : SqT K H a [.non, .ref b]) : PairAt K H (.ref a) .one :=
  ⟨a, _, _, rfl, h2, .one, ⟨_, .oth .non⟩, .inr ⟨⟨rfl, by decide, by decide⟩, b, rfl, h1⟩⟩
structure EvP (K : PySem.W.Frag) (H : Hp) (kvs : List (Key × V)) : Prop where
  one : ∃ v, valV kvs (.inl 1) = some v
  all_ : ∀ k v, valV kvs k = some v → ∃ n : Nat, k = .inl n ∧ 1 ≤ n ∧ PairAt K H v (evT n)
theorem EvP.same {K : PySem.W.Frag} {H H' : Hp} {kvs : List (Key × V)} (e : EvP K H kvs) (s : Same H H') : EvP K H' kvs := ⟨e.one, fun k v h => by
  obtain ⟨n, h1, h2, h3⟩ := e.all_ k v h
  exact ⟨n, h1, h2, h3.keep (Keep.of s)⟩⟩

/-! ### heaps that go on -/
theorem Same.but {H H1 H2 : Hp} {p : Addr} (s : Same H H1) (np : H p = none) (b : But p H1 H2) : Same H H2 := fun c o h =>
  b c o (fun z => by rw [z, np] at h; cases h) (s c o h)

/-! ### balanced trees put together -/
theorem bal_pair {a b : Th} : (Th.pair a b).isBal = true ↔ a.isBal = true ∧ b.isBal = true ∧ a.hgt ≤ b.hgt + 1 ∧ b.hgt ≤ a.hgt + 1 := by
  show (a.isBal && b.isBal && decide (a.hgt ≤ b.hgt + 1) && decide (b.hgt ≤ a.hgt + 1)) = true ↔ _
  simp only [Bool.and_eq_true, decide_eq_true_eq]
  exact ⟨fun h => ⟨h.1.1.1, h.1.1.2, h.1.2, h.2⟩, fun h => ⟨⟨⟨h.1, h.2.1⟩, h.2.2.1⟩, h.2.2.2⟩⟩
theorem hgt_pair {a b : Th} : (Th.pair a b).hgt = 1 + max a.hgt b.hgt := rfl
theorem wid_pair {a b : Th} : (Th.pair a b).wid = a.wid + b.wid := rfl
theorem bal_tall {t : Th} (h : t.isBal = true) (p : 0 < t.hgt) : ∃ a b, t = .pair a b := by
  cases t with
  | one => exact absurd p (Nat.lt_irrefl 0)
  | other => cases h
  | pair a b => exact ⟨a, b, rfl⟩
theorem bal_low {t : Th} (h : t.isBal = true) (p : t.hgt = 0) : t = .one := by
  cases t with
  | one => rfl
  | other => cases h
  | pair a b =>
    rw [hgt_pair] at p
    omega
theorem bal_hgt {t : Th} (h : t.isBal = true) (w : t.wid ≤ 20000) : t.hgt ≤ 20 := by
  refine Nat.le_of_not_lt fun l => ?_
  have h1 := t.least_wid h
  have h2 := leastW_mono (show 21 ≤ t.hgt from l)
  have h3 : leastW 21 = 28657 := by decide +kernel
  omega
theorem bal_hgtM {t : Th} (h : t.isBal = true) (w : t.wid ≤ 40000) : t.hgt ≤ 21 := by
  refine Nat.le_of_not_lt fun l => ?_
  have h1 := t.least_wid h
  have h2 := leastW_mono (show 22 ≤ t.hgt from l)
  have h3 : leastW 22 = 46368 := by decide +kernel
  omega
def evR (l : Th) : Th → Th
  | .pair inner outer => if inner.hgt ≤ outer.hgt then .pair (.pair l inner) outer else
    match inner with
    | .pair one other => .pair (.pair l one) (.pair other outer)
    | _ => .one
  | _ => .one
def evL (r : Th) : Th → Th
  | .pair outer inner => if inner.hgt ≤ outer.hgt then .pair outer (.pair inner r) else
    match inner with
    | .pair one other => .pair (.pair outer one) (.pair other r)
    | _ => .one
  | _ => .one
def evenP (l r : Th) : Th := if r.hgt > l.hgt + 1 then evR l r else if l.hgt > r.hgt + 1 then evL r l else .pair l r
structure EvOk (l r t : Th) : Prop where
  bal : t.isBal = true
  wid : t.wid = l.wid + r.wid
  near : l.hgt ≤ r.hgt + 1 → r.hgt ≤ l.hgt + 1 → t.hgt = 1 + max l.hgt r.hgt
  lo : max l.hgt r.hgt ≤ t.hgt
  hi : t.hgt ≤ 1 + max l.hgt r.hgt
theorem evenP_ok {l r : Th} (bl : l.isBal = true) (br : r.isBal = true) (d1 : l.hgt ≤ r.hgt + 2) (d2 : r.hgt ≤ l.hgt + 2) : EvOk l r (evenP l r) := by
  unfold evenP
  split
  · rename_i c
    obtain ⟨x, y, rfl⟩ := bal_tall br (by omega)
    obtain ⟨b1, b2, h1, h2⟩ := bal_pair.mp br
    rw [hgt_pair] at c d1 d2
    show EvOk l (.pair x y) (if x.hgt ≤ y.hgt then _ else _)
    split
    · refine ⟨bal_pair.mpr ⟨bal_pair.mpr ⟨bl, b1, by omega, by omega⟩, b2, ?_, ?_⟩, ?_, ?_, ?_, ?_⟩
      all_goals simp only [hgt_pair, wid_pair]
      all_goals omega
    · obtain ⟨u, v, rfl⟩ := bal_tall b1 (by omega)
      obtain ⟨b3, b4, h3, h4⟩ := bal_pair.mp b1
      rw [hgt_pair] at c d1 d2 h1 h2
      rename_i e
      rw [hgt_pair] at e
      refine ⟨bal_pair.mpr ⟨bal_pair.mpr ⟨bl, b3, by omega, by omega⟩, bal_pair.mpr ⟨b4, b2, by omega, by omega⟩, ?_, ?_⟩, ?_, ?_, ?_, ?_⟩
      all_goals simp only [hgt_pair, wid_pair]
      all_goals omega
  · split
    · rename_i c0 c
      obtain ⟨x, y, rfl⟩ := bal_tall bl (by omega)
      obtain ⟨b1, b2, h1, h2⟩ := bal_pair.mp bl
      rw [hgt_pair] at c d1 d2
      show EvOk (.pair x y) r (if y.hgt ≤ x.hgt then _ else _)
      split
      · refine ⟨bal_pair.mpr ⟨b1, bal_pair.mpr ⟨b2, br, by omega, by omega⟩, ?_, ?_⟩, ?_, ?_, ?_, ?_⟩
        all_goals simp only [hgt_pair, wid_pair]
        all_goals omega
      · obtain ⟨u, v, rfl⟩ := bal_tall b2 (by omega)
        obtain ⟨b3, b4, h3, h4⟩ := bal_pair.mp b2
        rw [hgt_pair] at c d1 d2 h1 h2
        rename_i e
        rw [hgt_pair] at e
        refine ⟨bal_pair.mpr ⟨bal_pair.mpr ⟨b1, b3, by omega, by omega⟩, bal_pair.mpr ⟨b4, br, by omega, by omega⟩, ?_, ?_⟩, ?_, ?_, ?_, ?_⟩
        all_goals simp only [hgt_pair, wid_pair]
        all_goals omega
    · refine ⟨bal_pair.mpr ⟨bl, br, by omega, by omega⟩, rfl, fun _ _ => rfl, ?_, ?_⟩
      all_goals simp only [hgt_pair]
      all_goals omega
/-! two side by side -/
def joinF : Nat → Th → Th → Th
  | 0, l, r => .pair l r
  | n + 1, l, r => if l.hgt > r.hgt + 1 then (match l with | .pair a b => evenP a (joinF n b r) | _ => .one) else
    if r.hgt > l.hgt + 1 then (match r with | .pair a b => evenP (joinF n l a) b | _ => .one) else .pair l r
theorem joinF_ok : ∀ (n : Nat) {l r : Th}, l.isBal = true → r.isBal = true → l.hgt + r.hgt < n → (joinF n l r).isBal = true ∧ (joinF n l r).wid = l.wid + r.wid ∧ max l.hgt r.hgt ≤ (joinF n l r).hgt ∧ (joinF n l r).hgt ≤ 1 + max l.hgt r.hgt
  | 0, l, r, _, _, h => by omega
  | n + 1, l, r, bl, br, h => by
    unfold joinF
    split
    · rename_i c
      obtain ⟨x, y, rfl⟩ := bal_tall bl (by omega)
      obtain ⟨b1, b2, h1, h2⟩ := bal_pair.mp bl
      rw [hgt_pair] at c h
      obtain ⟨i1, i2, i3, i4⟩ := joinF_ok n b2 br (by omega)
      have e := evenP_ok b1 i1 (by omega) (by omega)
      obtain ⟨e1, e2, e3, e4, e5⟩ := e
      refine ⟨e1, ?_, ?_, ?_⟩
      · show (evenP x (joinF n y r)).wid = _
        rw [e2, i2, wid_pair]
        omega
      · show _ ≤ (evenP x (joinF n y r)).hgt
        rw [hgt_pair]
        by_cases q : x.hgt ≤ (joinF n y r).hgt + 1 ∧ (joinF n y r).hgt ≤ x.hgt + 1
        · rw [e3 q.1 q.2]
          omega
        · omega
      · show (evenP x (joinF n y r)).hgt ≤ _
        rw [hgt_pair]
        omega
    · split
      · rename_i c0 c
        obtain ⟨x, y, rfl⟩ := bal_tall br (by omega)
        obtain ⟨b1, b2, h1, h2⟩ := bal_pair.mp br
        rw [hgt_pair] at c h
        obtain ⟨i1, i2, i3, i4⟩ := joinF_ok n bl b1 (by omega)
        have e := evenP_ok i1 b2 (by omega) (by omega)
        obtain ⟨e1, e2, e3, e4, e5⟩ := e
        refine ⟨e1, ?_, ?_, ?_⟩
        · show (evenP (joinF n l x) y).wid = _
          rw [e2, i2, wid_pair]
          omega
        · show _ ≤ (evenP (joinF n l x) y).hgt
          rw [hgt_pair]
          by_cases q : (joinF n l x).hgt ≤ y.hgt + 1 ∧ y.hgt ≤ (joinF n l x).hgt + 1
          · rw [e3 q.1 q.2]
            omega
          · omega
        · show (evenP (joinF n l x) y).hgt ≤ _
          rw [hgt_pair]
          omega
      · refine ⟨bal_pair.mpr ⟨bl, br, by omega, by omega⟩, rfl, ?_, ?_⟩
        all_goals simp only [hgt_pair]
        all_goals omega
def joinT (l r : Th) : Th := joinF 50 l r
theorem joinT_ok {l r : Th} (bl : l.isBal = true) (br : r.isBal = true) (wl : l.wid ≤ 40000) (wr : r.wid ≤ 40000) : (joinT l r).isBal = true ∧ (joinT l r).wid = l.wid + r.wid := by
  have h1 := bal_hgtM bl wl
  have h2 := bal_hgtM br wr
  have := joinF_ok 50 bl br (by omega)
  exact ⟨this.1, this.2.1⟩
def joinO : Option Th → Option Th → Option Th
  | none, r => r
  | some l, none => some l
  | some l, some r => some (joinT l r)
/-! cut in two -/
def cutT : Th → Nat → Option Th × Option Th
  | .pair l r, m => if m = 0 then (none, some (.pair l r)) else if m = l.wid + r.wid then (some (.pair l r), none) else
    if m ≤ l.wid then ((cutT l m).1, joinO (cutT l m).2 (some r)) else (joinO (some l) (cutT r (m - l.wid)).1, (cutT r (m - l.wid)).2)
  | t, m => if m = 0 then (none, some t) else (some t, none)
/-- a part of so many children -/
def PartOk (p : Option Th) (m : Nat) : Prop := (m = 0 ∧ p = none) ∨ ∃ t, p = some t ∧ t.isBal = true ∧ t.wid = m
theorem bal_wid {t : Th} (h : t.isBal = true) : 0 < t.wid := t.wid_pos (t.bal_sh h)
theorem joinO_ok {p q : Option Th} {m n : Nat} (hp : PartOk p m) (hq : PartOk q n) (h1 : m ≤ 40000) (h2 : n ≤ 40000) : PartOk (joinO p q) (m + n) := by
  rcases hp with ⟨rfl, rfl⟩ | ⟨t, rfl, b1, rfl⟩
  · rw [Nat.zero_add]
    exact hq
  · rcases hq with ⟨rfl, rfl⟩ | ⟨u, rfl, b2, rfl⟩
    · exact .inr ⟨t, rfl, b1, rfl⟩
    · obtain ⟨e1, e2⟩ := joinT_ok b1 b2 h1 h2
      exact .inr ⟨_, rfl, e1, e2⟩
theorem cutT_ok : ∀ {t : Th} {m : Nat}, t.isBal = true → m ≤ t.wid → t.wid ≤ 40000 → PartOk (cutT t m).1 m ∧ PartOk (cutT t m).2 (t.wid - m)
  | .one, m, _, h, _ => by
    have h : m ≤ 1 := h
    show PartOk (if m = 0 then ((none : Option Th), some Th.one) else (some Th.one, (none : Option Th))).1 m ∧ PartOk (if m = 0 then ((none : Option Th), some Th.one) else (some Th.one, (none : Option Th))).2 (1 - m)
    by_cases c : m = 0
    · rw [if_pos c]
      subst c
      exact ⟨.inl ⟨rfl, rfl⟩, .inr ⟨_, rfl, rfl, rfl⟩⟩
    · rw [if_neg c, show m = 1 by omega]
      exact ⟨.inr ⟨_, rfl, rfl, rfl⟩, .inl ⟨rfl, rfl⟩⟩
  | .other, m, b, _, _ => by cases b
  | .pair l r, m, b, h, hw => by
    obtain ⟨b1, b2, h1, h2⟩ := bal_pair.mp b
    rw [wid_pair] at h hw ⊢
    have p1 := bal_wid b1
    have p2 := bal_wid b2
    unfold cutT
    split
    · rename_i c
      subst c
      exact ⟨.inl ⟨rfl, rfl⟩, .inr ⟨_, rfl, b, rfl⟩⟩
    · split
      · rename_i c
        exact ⟨.inr ⟨_, rfl, b, by rw [c]; rfl⟩, .inl ⟨by omega, rfl⟩⟩
      · split
        · obtain ⟨i1, i2⟩ := cutT_ok b1 (show m ≤ l.wid by omega) (by omega)
          refine ⟨i1, ?_⟩
          have := joinO_ok i2 (.inr ⟨r, rfl, b2, rfl⟩) (by omega) (by omega)
          rw [show l.wid - m + r.wid = l.wid + r.wid - m by omega] at this
          exact this
        · obtain ⟨i1, i2⟩ := cutT_ok b2 (show m - l.wid ≤ r.wid by omega) (by omega)
          have := joinO_ok (.inr ⟨l, rfl, b1, rfl⟩) i1 (by omega) (by omega)
          rw [show l.wid + (m - l.wid) = m by omega] at this
          refine ⟨this, ?_⟩
          rw [show r.wid - (m - l.wid) = l.wid + r.wid - m by omega] at i2
          exact i2
/-! a child put in and taken out -/
def withT : Th → Nat → Th
  | .pair l r, p => if p ≤ l.wid then evenP (withT l p) r else evenP l (withT r (p - l.wid))
  | _, _ => .pair .one .one
theorem withT_ok : ∀ {t : Th} {p : Nat}, t.isBal = true → (withT t p).isBal = true ∧ (withT t p).wid = t.wid + 1 ∧ t.hgt ≤ (withT t p).hgt ∧ (withT t p).hgt ≤ t.hgt + 1
  | .one, p, _ => ⟨rfl, rfl, Nat.zero_le _, Nat.le_refl 1⟩
  | .other, p, b => by cases b
  | .pair l r, p, b => by
    obtain ⟨b1, b2, h1, h2⟩ := bal_pair.mp b
    rw [wid_pair, hgt_pair]
    unfold withT
    split
    · obtain ⟨i1, i2, i3, i4⟩ := withT_ok (p := p) b1
      obtain ⟨e1, e2, e3, e4, e5⟩ := evenP_ok i1 b2 (by omega) (by omega)
      refine ⟨e1, by omega, ?_, ?_⟩
      · by_cases q : (withT l p).hgt ≤ r.hgt + 1 ∧ r.hgt ≤ (withT l p).hgt + 1
        · rw [e3 q.1 q.2]
          omega
        · omega
      · by_cases q : (withT l p).hgt ≤ r.hgt + 1 ∧ r.hgt ≤ (withT l p).hgt + 1
        · rw [e3 q.1 q.2]
          omega
        · omega
    · obtain ⟨i1, i2, i3, i4⟩ := withT_ok (p := p - l.wid) b2
      obtain ⟨e1, e2, e3, e4, e5⟩ := evenP_ok b1 i1 (by omega) (by omega)
      refine ⟨e1, by omega, ?_, ?_⟩
      · by_cases q : l.hgt ≤ (withT r (p - l.wid)).hgt + 1 ∧ (withT r (p - l.wid)).hgt ≤ l.hgt + 1
        · rw [e3 q.1 q.2]
          omega
        · omega
      · by_cases q : l.hgt ≤ (withT r (p - l.wid)).hgt + 1 ∧ (withT r (p - l.wid)).hgt ≤ l.hgt + 1
        · rw [e3 q.1 q.2]
          omega
        · omega
def lessT : Th → Nat → Option Th
  | .pair l r, p => if p < l.wid then (match lessT l p with | none => some r | some t => some (evenP t r)) else
    match lessT r (p - l.wid) with | none => some l | some t => some (evenP l t)
  | _, _ => none
theorem lessT_ok : ∀ {t : Th} {p : Nat}, t.isBal = true → (lessT t p = none ∧ t.wid = 1 ∧ t.hgt = 0) ∨ ∃ u, lessT t p = some u ∧ u.isBal = true ∧ u.wid + 1 = t.wid ∧ u.hgt ≤ t.hgt ∧ t.hgt ≤ u.hgt + 1
  | .one, p, _ => .inl ⟨rfl, rfl, rfl⟩
  | .other, p, b => by cases b
  | .pair l r, p, b => by
    obtain ⟨b1, b2, h1, h2⟩ := bal_pair.mp b
    have p1 := bal_wid b1
    have p2 := bal_wid b2
    rw [wid_pair, hgt_pair]
    refine .inr ?_
    unfold lessT
    split
    · rcases lessT_ok (p := p) b1 with ⟨i1, i2, i3⟩ | ⟨u, i1, i2, i3, i4, i5⟩
      · rw [i1]
        exact ⟨r, rfl, b2, by omega, by omega, by omega⟩
      · rw [i1]
        obtain ⟨e1, e2, e3, e4, e5⟩ := evenP_ok i2 b2 (by omega) (by omega)
        refine ⟨_, rfl, e1, by omega, ?_, ?_⟩
        · by_cases q : u.hgt ≤ r.hgt + 1 ∧ r.hgt ≤ u.hgt + 1
          · rw [e3 q.1 q.2]
            omega
          · omega
        · by_cases q : u.hgt ≤ r.hgt + 1 ∧ r.hgt ≤ u.hgt + 1
          · rw [e3 q.1 q.2]
            omega
          · omega
    · rcases lessT_ok (p := p - l.wid) b2 with ⟨i1, i2, i3⟩ | ⟨u, i1, i2, i3, i4, i5⟩
      · rw [i1]
        exact ⟨l, rfl, b1, by omega, by omega, by omega⟩
      · rw [i1]
        obtain ⟨e1, e2, e3, e4, e5⟩ := evenP_ok b1 i2 (by omega) (by omega)
        refine ⟨_, rfl, e1, by omega, ?_, ?_⟩
        · by_cases q : l.hgt ≤ u.hgt + 1 ∧ u.hgt ≤ l.hgt + 1
          · rw [e3 q.1 q.2]
            omega
          · omega
        · by_cases q : l.hgt ≤ u.hgt + 1 ∧ u.hgt ≤ l.hgt + 1
          · rw [e3 q.1 q.2]
            omega
          · omega
/-- a tree or None -/
def StO (C : Addr) (H : Hp) (v : V) (p : Option Th) : Prop := (v = .non ∧ p = none) ∨ ∃ t, p = some t ∧ StAt C H v t
theorem StO.same {C : Addr} {H H' : Hp} {v : V} {p : Option Th} (s : Same H H') (h : StO C H v p) : StO C H' v p := by
  rcases h with h | ⟨t, e, h⟩
  · exact .inl h
  · exact .inr ⟨t, e, h.same s⟩
def hgtO : Option Th → Nat
  | none => 0
  | some t => t.hgt
def BalO (p : Option Th) : Prop := ∀ t, p = some t → t.isBal = true
def joinFO (n : Nat) : Option Th → Option Th → Option Th
  | none, r => r
  | some l, none => some l
  | some l, some r => some (joinF n l r)
theorem joinFO_joinO (p q : Option Th) : joinFO 50 p q = joinO p q := by
  cases p <;> cases q <;> rfl
theorem PartOk.bal {p : Option Th} {m : Nat} (h : PartOk p m) : BalO p := fun t e => by
  rcases h with ⟨_, z⟩ | ⟨u, z, b, _⟩
  · rw [z] at e; cases e
  · rw [z] at e; cases e; exact b
theorem PartOk.hgt {p : Option Th} {m : Nat} (h : PartOk p m) (hm : m ≤ 20000) : hgtO p ≤ 20 := by
  rcases h with ⟨_, z⟩ | ⟨u, z, b, e⟩
  · rw [z]; exact Nat.zero_le _
  · rw [z]; exact bal_hgt b (by omega)

def topS (i : Nat) : Stmt := PySem.Challenge.pw_everymatch_k59_shapes_and_near_ones.main.body.getD i (.Pass ⟨0, 0, 0, 0⟩)
abbrev s_is_integer : Stmt := topS 7
abbrev nm_is_integer : List Str := ["thing"]
theorem sc_is_integer : FnScope nm_is_integer ["thing"] (defScope s_is_integer) := ⟨rfl, rfl, rfl, by decide +kernel, rfl, by decide +kernel, by decide +kernel⟩
abbrev s_need_count : Stmt := topS 8
abbrev nm_need_count : List Str := ["thing", "most"]
theorem sc_need_count : FnScope nm_need_count ["thing", "most"] (defScope s_need_count) := ⟨rfl, rfl, rfl, by decide +kernel, rfl, by decide +kernel, by decide +kernel⟩
abbrev s_width_in : Stmt := topS 13
abbrev nm_width_in : List Str := ["thing", "most", "left", "right"]
theorem sc_width_in : FnScope nm_width_in ["thing", "most"] (defScope s_width_in) := ⟨rfl, rfl, rfl, by decide +kernel, rfl, by decide +kernel, by decide +kernel⟩
abbrev s_height_in : Stmt := topS 14
abbrev nm_height_in : List Str := ["shape"]
theorem sc_height_in : FnScope nm_height_in ["shape"] (defScope s_height_in) := ⟨rfl, rfl, rfl, by decide +kernel, rfl, by decide +kernel, by decide +kernel⟩
abbrev s_balanced_height : Stmt := topS 15
abbrev nm_balanced_height : List Str := ["shape", "left", "right"]
theorem sc_balanced_height : FnScope nm_balanced_height ["shape"] (defScope s_balanced_height) := ⟨rfl, rfl, rfl, by decide +kernel, rfl, by decide +kernel, by decide +kernel⟩
abbrev s_stem_of : Stmt := topS 16
abbrev nm_stem_of : List Str := ["shape"]
theorem sc_stem_of : FnScope nm_stem_of ["shape"] (defScope s_stem_of) := ⟨rfl, rfl, rfl, by decide +kernel, rfl, by decide +kernel, by decide +kernel⟩
abbrev s_shape_of : Stmt := topS 17
abbrev nm_shape_of : List Str := ["tree"]
theorem sc_shape_of : FnScope nm_shape_of ["tree"] (defScope s_shape_of) := ⟨rfl, rfl, rfl, by decide +kernel, rfl, by decide +kernel, by decide +kernel⟩
abbrev s_even_pair : Stmt := topS 18
abbrev nm_even_pair : List Str := ["builder", "left", "right", "inner", "outer", "one", "other"]
theorem sc_even_pair : FnScope nm_even_pair ["builder", "left", "right"] (defScope s_even_pair) := ⟨rfl, rfl, rfl, by decide +kernel, rfl, by decide +kernel, by decide +kernel⟩
abbrev s_row_joined : Stmt := topS 19
abbrev nm_row_joined : List Str := ["builder", "left", "right", "first", "last"]
theorem sc_row_joined : FnScope nm_row_joined ["builder", "left", "right"] (defScope s_row_joined) := ⟨rfl, rfl, rfl, by decide +kernel, rfl, by decide +kernel, by decide +kernel⟩
abbrev s_row_cut : Stmt := topS 20
abbrev nm_row_cut : List Str := ["builder", "tree", "many", "left", "right", "first", "last"]
theorem sc_row_cut : FnScope nm_row_cut ["builder", "tree", "many"] (defScope s_row_cut) := ⟨rfl, rfl, rfl, by decide +kernel, rfl, by decide +kernel, by decide +kernel⟩
abbrev s_row_with : Stmt := topS 21
abbrev nm_row_with : List Str := ["builder", "tree", "place", "child", "left", "right"]
theorem sc_row_with : FnScope nm_row_with ["builder", "tree", "place", "child"] (defScope s_row_with) := ⟨rfl, rfl, rfl, by decide +kernel, rfl, by decide +kernel, by decide +kernel⟩
abbrev s_row_without : Stmt := topS 22
abbrev nm_row_without : List Str := ["builder", "tree", "place", "left", "right", "less"]
theorem sc_row_without : FnScope nm_row_without ["builder", "tree", "place"] (defScope s_row_without) := ⟨rfl, rfl, rfl, by decide +kernel, rfl, by decide +kernel, by decide +kernel⟩
abbrev s_need_shape : Stmt := topS 24
abbrev nm_need_shape : List Str := ["shape", "width"]
theorem sc_need_shape : FnScope nm_need_shape ["shape"] (defScope s_need_shape) := ⟨rfl, rfl, rfl, by decide +kernel, rfl, by decide +kernel, by decide +kernel⟩
abbrev s_need_balanced : Stmt := topS 25
abbrev nm_need_balanced : List Str := ["shape", "width"]
theorem sc_need_balanced : FnScope nm_need_balanced ["shape"] (defScope s_need_balanced) := ⟨rfl, rfl, rfl, by decide +kernel, rfl, by decide +kernel, by decide +kernel⟩
abbrev s_is_shape : Stmt := topS 26
abbrev nm_is_shape : List Str := ["thing"]
theorem sc_is_shape : FnScope nm_is_shape ["thing"] (defScope s_is_shape) := ⟨rfl, rfl, rfl, by decide +kernel, rfl, by decide +kernel, by decide +kernel⟩
abbrev s_is_balanced : Stmt := topS 27
abbrev nm_is_balanced : List Str := ["shape"]
theorem sc_is_balanced : FnScope nm_is_balanced ["shape"] (defScope s_is_balanced) := ⟨rfl, rfl, rfl, by decide +kernel, rfl, by decide +kernel, by decide +kernel⟩
abbrev s_width_of : Stmt := topS 28
abbrev nm_width_of : List Str := ["shape"]
theorem sc_width_of : FnScope nm_width_of ["shape"] (defScope s_width_of) := ⟨rfl, rfl, rfl, by decide +kernel, rfl, by decide +kernel, by decide +kernel⟩
abbrev s_height_of : Stmt := topS 29
abbrev nm_height_of : List Str := ["shape"]
theorem sc_height_of : FnScope nm_height_of ["shape"] (defScope s_height_of) := ⟨rfl, rfl, rfl, by decide +kernel, rfl, by decide +kernel, by decide +kernel⟩
abbrev s_joined_shapes : Stmt := topS 30
abbrev nm_joined_shapes : List Str := ["shape", "other", "width"]
theorem sc_joined_shapes : FnScope nm_joined_shapes ["shape", "other"] (defScope s_joined_shapes) := ⟨rfl, rfl, rfl, by decide +kernel, rfl, by decide +kernel, by decide +kernel⟩
abbrev s_cut_shape : Stmt := topS 31
abbrev nm_cut_shape : List Str := ["shape", "many", "first", "last"]
theorem sc_cut_shape : FnScope nm_cut_shape ["shape", "many"] (defScope s_cut_shape) := ⟨rfl, rfl, rfl, by decide +kernel, rfl, by decide +kernel, by decide +kernel⟩
abbrev s_put_shape : Stmt := topS 32
abbrev nm_put_shape : List Str := ["shape", "place", "width", "tree"]
theorem sc_put_shape : FnScope nm_put_shape ["shape", "place"] (defScope s_put_shape) := ⟨rfl, rfl, rfl, by decide +kernel, rfl, by decide +kernel, by decide +kernel⟩
abbrev s_taken_shape : Stmt := topS 33
abbrev nm_taken_shape : List Str := ["shape", "place"]
theorem sc_taken_shape : FnScope nm_taken_shape ["shape", "place"] (defScope s_taken_shape) := ⟨rfl, rfl, rfl, by decide +kernel, rfl, by decide +kernel, by decide +kernel⟩
abbrev s__law_feed : Stmt := topS 35
abbrev nm__law_feed : List Str := ["script", "k", "cell"]
theorem sc__law_feed : FnScope nm__law_feed ["script", "k"] (defScope s__law_feed) := ⟨rfl, rfl, rfl, by decide +kernel, rfl, by decide +kernel, by decide +kernel⟩
abbrev s__law_draw : Stmt := topS 36
abbrev nm__law_draw : List Str := ["feed", "many", "rest", "got", "stir"]
theorem sc__law_draw : FnScope nm__law_draw ["feed", "many"] (defScope s__law_draw) := ⟨rfl, rfl, rfl, by decide +kernel, rfl, by decide +kernel, by decide +kernel⟩
abbrev s__law_one : Stmt := topS 37
abbrev nm__law_one : List Str := ["feed", "things"]
theorem sc__law_one : FnScope nm__law_one ["feed", "things"] (defScope s__law_one) := ⟨rfl, rfl, rfl, by decide +kernel, rfl, by decide +kernel, by decide +kernel⟩
abbrev s__law_pair : Stmt := topS 38
abbrev nm__law_pair : List Str := ["one", "other", "due", "width", "height"]
theorem sc__law_pair : FnScope nm__law_pair ["one", "other"] (defScope s__law_pair) := ⟨rfl, rfl, rfl, by decide +kernel, rfl, by decide +kernel, by decide +kernel⟩
abbrev s__law_grown : Stmt := topS 39
abbrev nm__law_grown : List Str := ["feed", "many", "spoil", "pool", "others", "turn", "at", "place"]
theorem sc__law_grown : FnScope nm__law_grown ["feed", "many", "spoil"] (defScope s__law_grown) := ⟨rfl, rfl, rfl, by decide +kernel, rfl, by decide +kernel, by decide +kernel⟩
abbrev s__law_comb : Stmt := topS 40
abbrev nm__law_comb : List Str := ["feed", "many", "got", "child", "turn"]
theorem sc__law_comb : FnScope nm__law_comb ["feed", "many"] (defScope s__law_comb) := ⟨rfl, rfl, rfl, by decide +kernel, rfl, by decide +kernel, by decide +kernel⟩
abbrev s__law_even : Stmt := topS 41
abbrev nm__law_even : List Str := ["width", "known"]
theorem sc__law_even : FnScope nm__law_even ["width", "known"] (defScope s__law_even) := ⟨rfl, rfl, rfl, by decide +kernel, rfl, by decide +kernel, by decide +kernel⟩
abbrev s__law_wide : Stmt := topS 42
abbrev nm__law_wide : List Str := ["feed", "child", "width", "way", "got", "turn"]
theorem sc__law_wide : FnScope nm__law_wide ["feed"] (defScope s__law_wide) := ⟨rfl, rfl, rfl, by decide +kernel, rfl, by decide +kernel, by decide +kernel⟩
abbrev s__law_thing : Stmt := topS 43
abbrev nm__law_thing : List Str := ["feed", "first", "way", "many", "one", "other"]
theorem sc__law_thing : FnScope nm__law_thing ["feed", "first"] (defScope s__law_thing) := ⟨rfl, rfl, rfl, by decide +kernel, rfl, by decide +kernel, by decide +kernel⟩
abbrev s__law_refused : Stmt := topS 44
abbrev nm__law_refused : List Str := ["door", "thing", "got"]
theorem sc__law_refused : FnScope nm__law_refused ["door", "thing"] (defScope s__law_refused) := ⟨rfl, rfl, rfl, by decide +kernel, rfl, by decide +kernel, by decide +kernel⟩
abbrev s__law_is_integer : Stmt := topS 45
abbrev nm__law_is_integer : List Str := ["found", "due"]
theorem sc__law_is_integer : FnScope nm__law_is_integer ["found", "due"] (defScope s__law_is_integer) := ⟨rfl, rfl, rfl, by decide +kernel, rfl, by decide +kernel, by decide +kernel⟩
abbrev s__law_right : Stmt := topS 46
abbrev nm__law_right : List Str := ["thing", "due", "told", "balance", "door"]
theorem sc__law_right : FnScope nm__law_right ["thing", "due"] (defScope s__law_right) := ⟨rfl, rfl, rfl, by decide +kernel, rfl, by decide +kernel, by decide +kernel⟩
abbrev s_law : Stmt := topS 47
abbrev nm_law : List Str := ["script", "k", "thing", "due"]
theorem sc_law : FnScope nm_law ["script"] (defScope s_law) := ⟨rfl, rfl, rfl, by decide +kernel, rfl, by decide +kernel, by decide +kernel⟩
abbrev s_Stem_init : Stmt := match topS 11 with | .ClassDef _ _ _ b _ _ _ _ _ _ _ => b.getD 0 (.Pass ⟨0, 0, 0, 0⟩) | _ => .Pass ⟨0, 0, 0, 0⟩
abbrev nm_Stem_init : List Str := ["self", "left", "right"]
theorem sc_Stem_init : FnScope nm_Stem_init ["self", "left", "right"] (defScope s_Stem_init) := ⟨rfl, rfl, rfl, by decide +kernel, rfl, by decide +kernel, by decide +kernel⟩
abbrev s_Builder_pair : Stmt := match topS 12 with | .ClassDef _ _ _ b _ _ _ _ _ _ _ => b.getD 0 (.Pass ⟨0, 0, 0, 0⟩) | _ => .Pass ⟨0, 0, 0, 0⟩
abbrev nm_Builder_pair : List Str := ["self", "left", "right"]
theorem sc_Builder_pair : FnScope nm_Builder_pair ["self", "left", "right"] (defScope s_Builder_pair) := ⟨rfl, rfl, rfl, by decide +kernel, rfl, by decide +kernel, by decide +kernel⟩
abbrev s_Builder_sides : Stmt := match topS 12 with | .ClassDef _ _ _ b _ _ _ _ _ _ _ => b.getD 1 (.Pass ⟨0, 0, 0, 0⟩) | _ => .Pass ⟨0, 0, 0, 0⟩
abbrev nm_Builder_sides : List Str := ["self", "tree"]
theorem sc_Builder_sides : FnScope nm_Builder_sides ["self", "tree"] (defScope s_Builder_sides) := ⟨rfl, rfl, rfl, by decide +kernel, rfl, by decide +kernel, by decide +kernel⟩
structure Top (K : PySem.W.Frag) (mg : Str → Option Value) (cMatchError cBadShape cBadCount cBadBalance cStem cBuilder : Addr) : Prop where
  d_is_integer : DefAt K mg "is_integer" s_is_integer ["thing"]
  d_need_count : DefAtD K mg "need_count" s_need_count ["thing", "most"] [.non]
  d_width_in : DefAt K mg "width_in" s_width_in ["thing", "most"]
  d_height_in : DefAt K mg "height_in" s_height_in ["shape"]
  d_balanced_height : DefAt K mg "balanced_height" s_balanced_height ["shape"]
  d_stem_of : DefAt K mg "stem_of" s_stem_of ["shape"]
  d_shape_of : DefAt K mg "shape_of" s_shape_of ["tree"]
  d_even_pair : DefAt K mg "even_pair" s_even_pair ["builder", "left", "right"]
  d_row_joined : DefAt K mg "row_joined" s_row_joined ["builder", "left", "right"]
  d_row_cut : DefAt K mg "row_cut" s_row_cut ["builder", "tree", "many"]
  d_row_with : DefAt K mg "row_with" s_row_with ["builder", "tree", "place", "child"]
  d_row_without : DefAt K mg "row_without" s_row_without ["builder", "tree", "place"]
  d_need_shape : DefAt K mg "need_shape" s_need_shape ["shape"]
  d_need_balanced : DefAt K mg "need_balanced" s_need_balanced ["shape"]
  d_is_shape : DefAt K mg "is_shape" s_is_shape ["thing"]
  d_is_balanced : DefAt K mg "is_balanced" s_is_balanced ["shape"]
  d_width_of : DefAt K mg "width_of" s_width_of ["shape"]
  d_height_of : DefAt K mg "height_of" s_height_of ["shape"]
  d_joined_shapes : DefAt K mg "joined_shapes" s_joined_shapes ["shape", "other"]
  d_cut_shape : DefAt K mg "cut_shape" s_cut_shape ["shape", "many"]
  d_put_shape : DefAt K mg "put_shape" s_put_shape ["shape", "place"]
  d_taken_shape : DefAt K mg "taken_shape" s_taken_shape ["shape", "place"]
  d__law_feed : DefAt K mg "_law_feed" s__law_feed ["script", "k"]
  d__law_draw : DefAt K mg "_law_draw" s__law_draw ["feed", "many"]
  d__law_one : DefAt K mg "_law_one" s__law_one ["feed", "things"]
  d__law_pair : DefAt K mg "_law_pair" s__law_pair ["one", "other"]
  d__law_grown : DefAt K mg "_law_grown" s__law_grown ["feed", "many", "spoil"]
  d__law_comb : DefAt K mg "_law_comb" s__law_comb ["feed", "many"]
  d__law_even : DefAt K mg "_law_even" s__law_even ["width", "known"]
  d__law_wide : DefAt K mg "_law_wide" s__law_wide ["feed"]
  d__law_thing : DefAt K mg "_law_thing" s__law_thing ["feed", "first"]
  d__law_refused : DefAt K mg "_law_refused" s__law_refused ["door", "thing"]
  d__law_is_integer : DefAt K mg "_law_is_integer" s__law_is_integer ["found", "due"]
  d__law_right : DefAt K mg "_law_right" s__law_right ["thing", "due"]
  n_ValueError : mg "ValueError" = none
  n_abs : mg "abs" = none
  n_all : mg "all" = none
  n_bool : mg "bool" = none
  n_int : mg "int" = none
  n_isinstance : mg "isinstance" = none
  n_len : mg "len" = none
  n_max : mg "max" = none
  n_min : mg "min" = none
  n_range : mg "range" = none
  n_sum : mg "sum" = none
  n_tuple : mg "tuple" = none
  v_MOST_NODES : ∃ u, mg "MOST_NODES" = some u ∧ RelV (.int 20000) u
  v_MOST_HEIGHT : ∃ u, mg "MOST_HEIGHT" = some u ∧ RelV (.int 40) u
  e_MatchError : ExcAt K mg "MatchError" cMatchError
  e_BadShape : ExcAt K mg "BadShape" cBadShape
  e_BadCount : ExcAt K mg "BadCount" cBadCount
  e_BadBalance : ExcAt K mg "BadBalance" cBadBalance
  k_Stem : ClsAt K mg "Stem" cStem ["left", "right", "width", "height"]
  k_Builder : ClsAt K mg "Builder" cBuilder []
  b_Builder : BareAt K cBuilder
  m_Stem_init : MethAt K cStem "__init__" "Stem.__init__" s_Stem_init ["self", "left", "right"]
  m_Builder_pair : MethAt K cBuilder "pair" "Builder.pair" s_Builder_pair ["self", "left", "right"]
  m_Builder_sides : MethAt K cBuilder "sides" "Builder.sides" s_Builder_sides ["self", "tree"]
section
variable {P : Program} {w : World} {K : PySem.W.Frag} {mg : Str → Option Value} {base : Heap} {cMatchError cBadShape cBadCount cBadBalance cStem cBuilder : Addr}
def spFeed (K : PySem.W.Frag) : Sp := fun vs H Q _ => ∃ (a : Addr) (ns : List Int) (k : Int), vs = [.ref a, .int k] ∧ SqL K H a (ns.map V.int) ∧ (∀ z ∈ ns, z.natAbs.log2 ≤ 1048576) ∧ 0 ≤ k ∧ k ≤ 1000 ∧
  ∀ H' p, Same H H' → H p = none → FeedAt H' p 0 → Q (.ref p) H'
theorem ok__law_feed (T : Top K mg cMatchError cBadShape cBadCount cBadBalance cStem cBuilder) : Cl P w K mg base 1 "_law_feed" ["script", "k"] (spFeed K) := by
  refine T.d__law_feed.ok sc__law_feed (fun vs H Q E h => ?_) (fun f cdv A outer s H vs Q E hr h => ?_)
  · obtain ⟨a, ns, k, rfl, _⟩ := h
    rfl
  · refine ⟨_, (pss_cons (ps_set (i := 2) sc__law_feed.nd rfl (.inl rfl) (pe_op op_add (pe_op op_mul pe_int (pv 1)) (pe_callB (cr_sum rfl) (by rfl) T.n_sum (by decide +kernel) (pa_cons (pe_slice sl_list (pv 0) po_none (po_some pe_int)) pa_nil))))
      (C8.pss_cut (ps_if (pt_cmpR op_lt (pv 1) (pe_callB call_len_seq (by rfl) T.n_len (by decide +kernel) (pa_cons (pv 0) pa_nil)) (nomark _)) (pss_one (ps_set (i := 2) sc__law_feed.nd rfl (.inl rfl) (pe_ix ix_list (pv 0) (pv 1) (fun _ _ => rfl)))) pss_nil)
      (pss_one (ps_ret (pe_lst (pa_cons (pe_callB (call_max2 rfl) (by rfl) T.n_max (by decide +kernel) (pa_cons pe_int (pa_cons (pe_op op_sub (pv 2) (pe_op op_pow pe_int pe_int)) pa_nil))) (pa_cons (pe_op op_mod (pe_callTy call_int1 (by rfl) T.n_int (by decide +kernel) (pa_cons (pe_op op_add (pe_op op_mul (pv 2) pe_int) (pe_op op_mul pe_int (pv 1))) pa_nil)) (pe_op op_add (pe_op op_pow pe_int pe_int) pe_int)) (pa_cons pe_int pa_nil)))))))), ?_⟩
    obtain ⟨a, ns, k, rfl, hS, hb, k0, k1, q⟩ := h
    refine ⟨_, rfl, _, _, rfl, rfl, .inl ⟨by decide, by decide⟩, _, rfl, 1, rfl, a, ns.map V.int, rfl, hS, fun p np => ?_⟩
    have s1 : Same H (upd H p (.lst (cutV (ns.map V.int) none (some 1)))) := same_new np
    refine ⟨p, ns.take 1, rfl, sqL_of (by rw [upd_same, show (some 1 : Option Int) = some ((1 : Nat) : Int) from rfl, cut_to, List.map_take]), _, _, rfl, rfl, ?_⟩
    have c0 : (977 * k + (ns.take 1).sum).natAbs.log2 ≤ 1050000 := by
      have h1 := log2_addI (977 * k) (ns.take 1).sum
      have h2 : (977 * k).natAbs.log2 < 32 := log2_lt_of (by omega) (by decide)
      have h3 : (ns.take 1).sum.natAbs.log2 ≤ 1048576 := by
        cases ns with
        | nil => show Nat.log2 0 ≤ _; decide
        | cons z r =>
          have : ((z :: r).take 1).sum = z := by
            show z + 0 = z
            omega
          rw [this]
          exact hb z List.mem_cons_self
      omega
    refine ⟨fun σ' H' => H' = upd H p (.lst (cutV (ns.map V.int) none (some 1))) ∧ ∃ cell : Int, σ' = [some (.ref a), some (.int k), some (.int cell)] ∧ cell.natAbs.log2 ≤ 1050000, ?_, ?_⟩
    · refine ⟨_, rfl, _, rfl, a, ns.map V.int, rfl, .inl (s1.seq hS), _, _, rfl, rfl, _, rfl, ?_⟩
      refine ite2 (fun e => ?_) (fun e => ?_)
      · have e1 : k < ((ns.map V.int).length : Int) := of_decide_eq_true e
        rw [List.length_map] at e1
        obtain ⟨j, rfl⟩ : ∃ j : Nat, k = j := ⟨k.toNat, by omega⟩
        have hj : j < ns.length := by omega
        refine ⟨_, rfl, _, rfl, a, _, _, _, rfl, rfl, s1.seq hS, atI_nat (j := j) (by rw [List.getElem?_map, List.getElem?_eq_getElem hj]; rfl), ?_⟩
        exact ⟨rfl, ns[j], rfl, Nat.le_trans (hb _ (List.getElem_mem hj)) (by decide)⟩
      · exact ⟨rfl, _, rfl, c0⟩
    · rintro σ' H' ⟨rfl, cell, rfl, cb⟩
      refine ⟨_, rfl, _, _, rfl, rfl, ⟨by decide, by decide, by decide⟩, _, _, rfl, rfl, _, _, rfl, ?_⟩
      refine ⟨_, rfl, _, _, rfl, rfl, .inr ⟨by decide, by decide⟩, _, rfl, _, _, rfl, rfl, .inl ⟨by decide, by decide⟩, _, _, rfl, rfl, .inl ⟨_, rfl, ?_⟩⟩
      refine ⟨_, _, rfl, rfl, ⟨by decide, by decide, by decide⟩, _, _, rfl, rfl, _, _, rfl, rfl, (by show (0 : Int) < 10 ^ Int.toNat 39 + 23; decide), ?_⟩
      refine ⟨by show 3 ≤ sizeLine; decide, fun l nl => ?_⟩
      refine q _ l (s1.trans (same_new nl)) (s1.free nl) ⟨_, _, 0, upd_same, ?_, ?_, Int.emod_nonneg _ (by decide), Int.lt_of_lt_of_le (Int.emod_lt_of_pos _ (by decide)) (by decide), Int.le_refl 0, Int.le_refl 0⟩
      · show 0 ≤ (if cell - 10 ^ Int.toNat 18 > 0 then cell - 10 ^ Int.toNat 18 else 0)
        split <;> omega
      · show (if cell - 10 ^ Int.toNat 18 > 0 then cell - 10 ^ Int.toNat 18 else 0).natAbs.log2 < 2000000
        split
        · rename_i e
          have : (cell - 10 ^ Int.toNat 18).natAbs.log2 ≤ cell.natAbs.log2 := log2_le_of (by
            have : (0 : Int) ≤ 10 ^ Int.toNat 18 := by decide
            omega)
          omega
        · show Nat.log2 0 < _
          decide
end

section
variable {P : Program} {w : World} {K : PySem.W.Frag} {mg : Str → Option Value} {base : Heap} {cMatchError cBadShape cBadCount cBadBalance cStem cBuilder : Addr}
theorem hgt_pairD {a b : Th} : (Th.pair a b).hgt = 1 + max a.hgt b.hgt := rfl
theorem wid_pairD {a b : Th} : (Th.pair a b).wid = a.wid + b.wid := rfl
def spLPair (K : PySem.W.Frag) : Sp := fun vs H Q _ => ∃ v1 v2 t1 t2, vs = [v1, v2] ∧ PairAt K H v1 t1 ∧ PairAt K H v2 t2 ∧ ∀ v H', Same H H' → PairAt K H' v (.pair t1 t2) → Q v H'
theorem ok__law_pair (T : Top K mg cMatchError cBadShape cBadCount cBadBalance cStem cBuilder) : Cl P w K mg base 1 "_law_pair" ["one", "other"] (spLPair K) := by
  refine T.d__law_pair.ok sc__law_pair (fun vs H Q E h => ?_) (fun f cdv A outer s H vs Q E hr h => ?_)
  · obtain ⟨_, _, _, _, rfl, _⟩ := h
    rfl
  · refine ⟨_, (pss_cons (ps_set (i := 2) sc__law_pair.nd rfl (.inl rfl) pe_non)
      (C8.pss_cut (ps_if (PW.pt (pw_and (pt_cmpR op_notN (pe_ix ix_tup (pv 0) pe_int (fun _ _ => rfl)) pe_non (nomark _)) (pw_and1 (pt_cmpR op_notN (pe_ix ix_tup (pv 1) pe_int (fun _ _ => rfl)) pe_non (nomark _))))) (pss_cons (ps_par (i := 3) (j := 4) (by rfl) sc__law_pair.nd rfl rfl (by decide) rfl rfl (pa_cons (pe_op op_add (pe_ix ix_tup (pe_ix ix_tup (pv 0) pe_int (fun _ _ => rfl)) pe_int (fun _ _ => rfl)) (pe_ix ix_tup (pe_ix ix_tup (pv 1) pe_int (fun _ _ => rfl)) pe_int (fun _ _ => rfl))) (pa_cons (pe_op op_add pe_int (pe_callB (call_max2 rfl) (by rfl) T.n_max (by decide +kernel) (pa_cons (pe_ix ix_tup (pe_ix ix_tup (pv 0) pe_int (fun _ _ => rfl)) pe_int (fun _ _ => rfl)) (pa_cons (pe_ix ix_tup (pe_ix ix_tup (pv 1) pe_int (fun _ _ => rfl)) pe_int (fun _ _ => rfl)) pa_nil)))) pa_nil)) (by rfl))
      (pss_one (ps_if (PW.pt (pw_and (pt_cmpR op_le (pv 3) pe_int (nomark _)) (pw_and1 (pt_cmpR op_le (pv 4) pe_int (nomark _))))) (pss_one (ps_set (i := 2) sc__law_pair.nd rfl (.inl rfl) (pe_tup (pa_cons (pv 3) (pa_cons (pv 4) (pa_cons (pe_and (pe_ix ix_tup (pe_ix ix_tup (pv 0) pe_int (fun _ _ => rfl)) pe_int (fun _ _ => rfl)) (pe_and (pe_ix ix_tup (pe_ix ix_tup (pv 1) pe_int (fun _ _ => rfl)) pe_int (fun _ _ => rfl)) (pe_one (pe_cmpR op_lt (pe_callB call_abs (by rfl) T.n_abs (by decide +kernel) (pa_cons (pe_op op_sub (pe_ix ix_tup (pe_ix ix_tup (pv 0) pe_int (fun _ _ => rfl)) pe_int (fun _ _ => rfl)) (pe_ix ix_tup (pe_ix ix_tup (pv 1) pe_int (fun _ _ => rfl)) pe_int (fun _ _ => rfl))) pa_nil)) pe_int (nomark _))))) pa_nil)))))) pss_nil))) pss_nil)
      (pss_one (ps_ret (pe_tup (pa_cons (pe_tup (pa_cons (pe_ix ix_tup (pv 0) pe_int (fun _ _ => rfl)) (pa_cons (pe_ix ix_tup (pv 1) pe_int (fun _ _ => rfl)) pa_nil))) (pa_cons (pv 2) pa_nil))))))), ?_⟩
    obtain ⟨v1, v2, t1, t2, rfl, ⟨a1, u1, d1, rfl, h1, r1, e1, D1⟩, ⟨a2, u2, d2, rfl, h2, r2, e2, D2⟩, q⟩ := h
    refine ⟨fun σ' H' => Same H H' ∧ ∃ d y3 y4, σ' = [some (.ref a1), some (.ref a2), some d, y3, y4] ∧ DueAt K H' d (.pair t1 t2), ?_, ?_⟩
    · have no : ¬ (Th.pair t1 t2).good → Same H H ∧ ∃ d y3 y4, [some (V.ref a1), some (.ref a2), some .non, none, none] = [some (.ref a1), some (.ref a2), some d, y3, y4] ∧ DueAt K H d (.pair t1 t2) := fun h => ⟨Same.refl _, .non, none, none, rfl, .inl ⟨h, rfl⟩⟩
      rcases D1 with ⟨ng, rfl⟩ | ⟨g1, b1, rfl, c1⟩
      · refine ⟨_, rfl, a1, _, _, _, rfl, rfl, h1, atI_nat (j := 1) rfl, rfl, _, rfl, iteF ?_⟩
        exact no fun h => ng (good_pair.mp h).1
      refine ⟨_, rfl, a1, _, _, _, rfl, rfl, h1, atI_nat (j := 1) rfl, rfl, _, rfl, iteT ?_⟩
      rcases D2 with ⟨ng, rfl⟩ | ⟨g2, b2, rfl, c2⟩
      · refine ⟨_, rfl, a2, _, _, _, rfl, rfl, h2, atI_nat (j := 1) rfl, rfl, _, rfl, iteF ?_⟩
        exact no fun h => ng (good_pair.mp h).2.1
      refine ⟨_, rfl, a2, _, _, _, rfl, rfl, h2, atI_nat (j := 1) rfl, rfl, _, rfl, iteT ?_⟩
      refine ⟨_, rfl, a1, _, _, _, rfl, rfl, h1, atI_nat (j := 1) rfl, b1, _, _, _, rfl, rfl, c1, atI_nat (j := 0) rfl, _, rfl, a2, _, _, _, rfl, rfl, h2, atI_nat (j := 1) rfl, b2, _, _, _, rfl, rfl, c2, atI_nat (j := 0) rfl, _, _, rfl, rfl, ?_⟩
      refine ⟨_, rfl, a1, _, _, _, rfl, rfl, h1, atI_nat (j := 1) rfl, b1, _, _, _, rfl, rfl, c1, atI_nat (j := 1) rfl, _, rfl, a2, _, _, _, rfl, rfl, h2, atI_nat (j := 1) rfl, b2, _, _, _, rfl, rfl, c2, atI_nat (j := 1) rfl, _, _, rfl, _, _, rfl, rfl, ?_⟩
      refine ⟨_, _, rfl, ?_⟩
      have ew : (t1.wid : Int) + (t2.wid : Int) = ((t1.pair t2).wid : Nat) := by
        show _ = ((t1.wid + t2.wid : Nat) : Int)
        omega
      have eh : (1 + if (t2.hgt : Int) > (t1.hgt : Int) then (t2.hgt : Int) else (t1.hgt : Int)) = ((t1.pair t2).hgt : Nat) := by
        show _ = ((1 + max t1.hgt t2.hgt : Nat) : Int)
        split <;> omega
      refine ⟨_, rfl, _, _, rfl, rfl, _, rfl, ite2 (fun e => ?_) (fun e => ?_)⟩
      · have e1 : (t1.wid : Int) + (t2.wid : Int) ≤ 20000 := of_decide_eq_true e
        rw [ew] at e1
        refine ⟨_, rfl, _, _, rfl, rfl, _, rfl, ite2 (fun e => ?_) (fun e => ?_)⟩
        · have e2 : (1 + if (t2.hgt : Int) > (t1.hgt : Int) then (t2.hgt : Int) else (t1.hgt : Int)) ≤ 40 := of_decide_eq_true e
          rw [eh] at e2
          have g : (t1.pair t2).good := good_pair.mpr ⟨g1, g2, by show (t1.pair t2).wid ≤ _; omega, by show (t1.pair t2).hgt ≤ _; omega⟩
          have ebal : (t1.pair t2).isBal = (t1.isBal && t2.isBal && decide (t1.hgt ≤ t2.hgt + 1) && decide (t2.hgt ≤ t1.hgt + 1)) := rfl
          have fin : ∀ bb, bb = (t1.pair t2).isBal → 3 ≤ sizeLine ∧ ∀ l, H l = none → Same H (upd H l (.tup [.int ((t1.wid : Int) + (t2.wid : Int)), .int (1 + if (t2.hgt : Int) > (t1.hgt : Int) then (t2.hgt : Int) else (t1.hgt : Int)), .bl bb])) ∧
              ∃ d y3 y4, [some (V.ref a1), some (.ref a2), some (.ref l), some (.int ((t1.wid : Int) + (t2.wid : Int))), some (.int (1 + if (t2.hgt : Int) > (t1.hgt : Int) then (t2.hgt : Int) else (t1.hgt : Int)))] = [some (.ref a1), some (.ref a2), some d, y3, y4] ∧
              DueAt K (upd H l (.tup [.int ((t1.wid : Int) + (t2.wid : Int)), .int (1 + if (t2.hgt : Int) > (t1.hgt : Int) then (t2.hgt : Int) else (t1.hgt : Int)), .bl bb])) d (.pair t1 t2) :=
            fun bb e => ⟨by decide, fun l nl => ⟨same_new nl, _, _, _, rfl, .inr ⟨g, l, rfl, sqT_of (upd_same.trans (by rw [ew, eh, e]))⟩⟩⟩
          refine ⟨_, rfl, _, rfl, ?_⟩
          refine ⟨_, rfl, a1, _, _, _, rfl, rfl, h1, atI_nat (j := 1) rfl, b1, _, _, _, rfl, rfl, c1, atI_nat (j := 2) rfl, t1.isBal, rfl, ?_⟩
          cases hb1 : t1.isBal with
          | false => exact iteF (fin false (by rw [ebal, hb1]; rfl))
          | true =>
            refine iteT ?_
            refine ⟨_, rfl, a2, _, _, _, rfl, rfl, h2, atI_nat (j := 1) rfl, b2, _, _, _, rfl, rfl, c2, atI_nat (j := 2) rfl, t2.isBal, rfl, ?_⟩
            cases hb2 : t2.isBal with
            | false => exact iteF (fin false (by rw [ebal, hb2, Bool.and_false]; rfl))
            | true =>
              refine iteT ?_
              refine ⟨_, rfl, a1, _, _, _, rfl, rfl, h1, atI_nat (j := 1) rfl, b1, _, _, _, rfl, rfl, c1, atI_nat (j := 1) rfl, _, rfl, a2, _, _, _, rfl, rfl, h2, atI_nat (j := 1) rfl, b2, _, _, _, rfl, rfl, c2, atI_nat (j := 1) rfl, _, _, rfl, rfl, _, rfl, _, _, rfl, rfl, ?_⟩
              refine fin _ ?_
              rw [ebal, hb1, hb2]
              show decide (farI (t1.hgt : Int) (t2.hgt : Int) < 2) = (true && true && decide (t1.hgt ≤ t2.hgt + 1) && decide (t2.hgt ≤ t1.hgt + 1))
              have h := @farI_lt (t1.hgt : Int) (t2.hgt : Int)
              by_cases c : t1.hgt ≤ t2.hgt + 1 ∧ t2.hgt ≤ t1.hgt + 1
              · rw [decide_eq_true c.1, decide_eq_true c.2]
                refine decide_eq_true ?_
                have : ¬ 1 < farI (t1.hgt : Int) (t2.hgt : Int) := fun z => h.mp z (by omega)
                omega
              · have : 1 < farI (t1.hgt : Int) (t2.hgt : Int) := h.mpr (by omega)
                rw [decide_eq_false (show ¬ farI (t1.hgt : Int) (t2.hgt : Int) < 2 by omega)]
                by_cases c1 : t1.hgt ≤ t2.hgt + 1
                · rw [decide_eq_true c1, decide_eq_false (show ¬ t2.hgt ≤ t1.hgt + 1 by omega)]
                  rfl
                · rw [decide_eq_false c1]
                  rfl
        · have e2 : ¬ (1 + if (t2.hgt : Int) > (t1.hgt : Int) then (t2.hgt : Int) else (t1.hgt : Int)) ≤ 40 := fun z => e (decide_eq_true z)
          rw [eh] at e2
          exact ⟨Same.refl _, _, _, _, rfl, .inl ⟨fun g => by have := (good_pair.mp g).2.2.2; exact e2 (by rw [hgt_pairD]; omega), rfl⟩⟩
      · have e1 : ¬ (t1.wid : Int) + (t2.wid : Int) ≤ 20000 := fun z => e (decide_eq_true z)
        rw [ew] at e1
        exact ⟨Same.refl _, _, _, _, rfl, .inl ⟨fun g => by have := (good_pair.mp g).2.2.1; exact e1 (by rw [wid_pairD]; omega), rfl⟩⟩
    · rintro σ' H1 ⟨s1, d, y3, y4, rfl, hd⟩
      refine ⟨_, rfl, a1, _, _, _, rfl, rfl, Same.seqT s1 h1, atI_nat (j := 0) rfl, _, rfl, a2, _, _, _, rfl, rfl, Same.seqT s1 h2, atI_nat (j := 0) rfl, by show 2 ≤ sizeLine; decide, fun l nl => ?_⟩
      have S2 := same_new (o := .tup [u1, u2]) nl
      have hl : SqT K (upd H1 l (.tup [u1, u2])) l [u1, u2] := sqT_of upd_same
      have hd2 := hd.mono (fun a xs z => Same.seqT S2 z)
      have s2 := s1.trans S2
      generalize upd H1 l (.tup [u1, u2]) = H2 at S2 hl hd2 s2 ⊢
      refine ⟨_, rfl, by show 2 ≤ sizeLine; decide, fun l3 n3 => ?_⟩
      have S3 := same_new (o := .tup [.ref l, d]) n3
      have s3 := s2.trans S3
      refine q _ _ s3 ⟨l3, _, _, rfl, sqT_of upd_same, .pair (Same.seqT S3 hl) (r1.keep (Keep.of s3)) (r2.keep (Keep.of s3)), ⟨_, .tup (Same.seqT S3 hl)⟩, hd2.mono (fun a xs z => Same.seqT S3 z)⟩
end

section
variable {P : Program} {w : World} {K : PySem.W.Frag} {mg : Str → Option Value} {base : Heap} {cMatchError cBadShape cBadCount cBadBalance cStem cBuilder : Addr}
def spDraw : Sp := fun vs H Q _ => ∃ p n many, vs = [.ref p, .int many] ∧ FeedAt H p n ∧ n ≤ 1000000000 ∧ 0 < many ∧ many < 10 ^ 100 ∧
  ∀ H' g, But p H H' → FeedAt H' p (n + 1) → 0 ≤ g → g < many → Q (.int g) H'
theorem ok__law_draw (T : Top K mg cMatchError cBadShape cBadCount cBadBalance cStem cBuilder) : Cl P w K mg base 1 "_law_draw" ["feed", "many"] spDraw := by
  refine T.d__law_draw.ok sc__law_draw (fun vs H Q E h => ?_) (fun f cdv A outer s H vs Q E hr h => ?_)
  · obtain ⟨p, n, m, rfl, _⟩ := h
    rfl
  · refine ⟨_, (pss_cons (ps_if (pt_cmpR op_gt (pe_ix ix_list (pv 0) pe_int (fun _ _ => rfl)) pe_int (nomark _)) (pss_cons (ps_set (i := 2) sc__law_draw.nd rfl (.inl rfl) (pe_op op_fdivW (pe_ix ix_list (pv 0) pe_int (fun _ _ => rfl)) (pv 1)))
      (pss_cons (ps_set (i := 3) sc__law_draw.nd rfl (.inl rfl) (pe_op op_sub (pe_ix ix_list (pv 0) pe_int (fun _ _ => rfl)) (pe_op op_mulX (pv 2) (pv 1))))
      (pss_cons (ps_asg (pv 2) (pg_sub (pv 0) pe_int set_list))
      (pss_one (ps_ret (pv 3)))))) pss_nil)
      (pss_cons (ps_asg (pe_op op_add (pe_ix ix_list (pv 0) pe_int (fun _ _ => rfl)) pe_int) (pg_sub (pv 0) pe_int set_list))
      (pss_cons (ps_set (i := 4) sc__law_draw.nd rfl (.inl rfl) (pe_op op_add (pe_ix ix_list (pv 0) pe_int (fun _ _ => rfl)) (pe_op op_mul pe_int (pe_ix ix_list (pv 0) pe_int (fun _ _ => rfl)))))
      (pss_cons (ps_set (i := 4) sc__law_draw.nd rfl (.inl rfl) (pe_op op_mod (pe_callTy call_int1 (by rfl) T.n_int (by decide +kernel) (pa_cons (pe_op op_add (pe_op op_mulX (pe_op op_mulX (pv 4) (pv 4)) (pv 4)) (pe_op op_mul pe_int (pe_ix ix_list (pv 0) pe_int (fun _ _ => rfl)))) pa_nil)) (pe_op op_add (pe_op op_pow pe_int pe_int) pe_int)))
      (pss_cons (ps_set (i := 4) sc__law_draw.nd rfl (.inl rfl) (pe_op op_mod (pe_callTy call_int1 (by rfl) T.n_int (by decide +kernel) (pa_cons (pe_op op_add (pe_op op_mulX (pv 4) (pv 4)) pe_int) pa_nil)) (pe_op op_add (pe_op op_pow pe_int pe_int) pe_int)))
      (pss_one (ps_ret (pe_op op_mod (pe_callTy call_int1 (by rfl) T.n_int (by decide +kernel) (pa_cons (pe_op op_fdivW (pv 4) (pe_op op_pow pe_int pe_int)) pa_nil)) (pv 1))))))))), ?_⟩
    obtain ⟨p, n, many, rfl, F, hn, m0, m1, q⟩ := h
    obtain ⟨x, y, c, h1, x0, xb, y0, y1, c0, c1⟩ := F.ex
    have p400 : ∀ a b : Nat, a < 2 ^ 200 → b < 2 ^ 200 → a * b < 2 ^ (200 + 200) := fun a b h1 h2 => by rw [Nat.pow_add]; exact Nat.mul_lt_mul'' h1 h2
    have mb : many.natAbs.log2 < 400 := log2_lt_of (Nat.lt_of_lt_of_le (by omega : many.natAbs < 10 ^ 100) (by decide)) (by decide)
    refine ⟨_, rfl, p, _, _, _, rfl, rfl, sqL_of h1, atI_nat (j := 0) rfl, _, _, rfl, rfl, _, rfl, ?_⟩
    have ax : ∀ {v : V} {i : Nat}, [V.int x, .int y, .int c][i]? = some v → atI [V.int x, .int y, .int c] (i : Int) = some v := fun h => atI_nat h
    have dm : ∀ z : Int, 0 ≤ z % many ∧ z % many < many := fun z => ⟨Int.emod_nonneg _ (by omega), Int.emod_lt_of_pos _ m0⟩
    refine ite2 (fun e => ?_) (fun e => ?_)
    · have r0 : 0 ≤ x / many := Int.ediv_nonneg x0 (by omega)
      have r1 : x / many ≤ x := Int.ediv_le_self _ x0
      have rb : (x / many).natAbs.log2 < 2000000 := Nat.lt_of_le_of_lt (log2_le_of (by omega)) xb
      have dd : x - x / many * many = x % many := by
        rw [Int.emod_def, Int.mul_comm]
      refine ⟨_, rfl, p, _, _, _, rfl, rfl, sqL_of h1, ax (i := 0) rfl, _, rfl, _, _, rfl, rfl, ⟨m0, by omega⟩, ?_⟩
      refine ⟨_, rfl, p, _, _, _, rfl, rfl, sqL_of h1, ax (i := 0) rfl, _, rfl, _, rfl, _, _, rfl, rfl, by unfold CMulX; omega, _, _, rfl, rfl, ?_⟩
      refine ⟨_, rfl, _, rfl, p, _, _, 0, rfl, rfl, h1, rfl, ?_⟩
      refine ⟨_, rfl, ?_⟩
      show Q (V.int (x - x / many * many)) _
      rw [dd]
      exact q _ _ but_upd ⟨_, _, _, upd_same, r0, rb, y0, y1, c0, by omega⟩ (dm _).1 (dm _).2
    · refine ⟨_, rfl, p, _, _, _, rfl, rfl, sqL_of h1, ax (i := 2) rfl, _, _, rfl, rfl, ?_⟩
      refine ⟨_, rfl, p, _, _, 2, rfl, rfl, h1, rfl, ?_⟩
      have h2 : upd H p (.lst [.int x, .int y, .int (c + 1)]) p = some (.lst [.int x, .int y, .int (c + 1)]) := upd_same
      have ax2 : ∀ {v : V} {i : Nat}, [V.int x, .int y, .int (c + 1)][i]? = some v → atI [V.int x, .int y, .int (c + 1)] (i : Int) = some v := fun h => atI_nat h
      have s0 : (y + 6700417 * (c + 1)).natAbs < 2 ^ 200 := by
        have : (10 : Int) ^ 40 + 6700417 * 1000000001 < 2 ^ 200 := by decide
        omega
      have sb := log2_lt_of s0 (by decide)
      refine ⟨_, rfl, p, _, _, _, rfl, rfl, sqL_of h2, ax2 (i := 1) rfl, _, rfl, p, _, _, _, rfl, rfl, sqL_of h2, ax2 (i := 2) rfl, _, _, rfl, rfl, .inl ⟨by decide, by decide⟩, _, _, rfl, rfl, ?_⟩
      obtain ⟨z, hz⟩ : ∃ z, z = y + 6700417 * (c + 1) := ⟨_, rfl⟩
      rw [← hz] at s0 sb
      have sb2 : (z * z).natAbs.log2 < 200 + 200 := log2_lt_of (by rw [Int.natAbs_mul]; exact p400 _ _ s0 s0) (by decide)
      have m1' : CMulX z z := by unfold CMulX; omega
      have m2' : CMulX (z * z) z := by unfold CMulX; omega
      refine ⟨_, rfl, _, rfl, _, _, rfl, rfl, by rw [hz] at m1'; exact m1', _, rfl, _, _, rfl, rfl, by rw [hz] at m2'; exact m2', _, rfl, p, _, _, _, rfl, rfl, sqL_of h2, ax2 (i := 2) rfl, _, _, rfl, rfl, .inl ⟨by decide, by decide⟩, _, _, rfl, rfl, .inl ⟨_, rfl, ?_⟩⟩
      refine ⟨_, _, rfl, rfl, ⟨by decide, by decide, by decide⟩, _, _, rfl, rfl, _, _, rfl, rfl, (by show (0 : Int) < 10 ^ Int.toNat 43 + 57; decide), ?_⟩
      obtain ⟨u, hu⟩ : ∃ u, u = (z * z * z + 15485863 * (c + 1)) % (10 ^ 43 + 57) := ⟨_, rfl⟩
      have u0 : u.natAbs < 2 ^ 150 := by
        have h1 : 0 ≤ u := by rw [hu]; exact Int.emod_nonneg _ (by decide)
        have h2 : u < 10 ^ 43 + 57 := by rw [hu]; exact Int.emod_lt_of_pos _ (by decide)
        have : (10 : Int) ^ 43 + 57 < 2 ^ 150 := by decide
        omega
      have ub := log2_lt_of u0 (by decide)
      have m3 : CMulX u u := by unfold CMulX; omega
      rw [hu, hz] at m3
      refine ⟨_, rfl, _, rfl, _, _, rfl, rfl, m3, _, _, rfl, rfl, .inl ⟨_, rfl, ?_⟩⟩
      refine ⟨_, _, rfl, rfl, ⟨by decide, by decide, by decide⟩, _, _, rfl, rfl, _, _, rfl, rfl, (by show (0 : Int) < 10 ^ Int.toNat 38 + 133; decide), ?_⟩
      refine ⟨_, rfl, _, _, rfl, rfl, ⟨by decide, by decide, by decide⟩, _, _, rfl, rfl, ⟨by decide, by decide⟩, .inl ⟨_, rfl, ?_⟩⟩
      refine ⟨_, rfl, _, _, rfl, rfl, m0, ?_⟩
      exact q _ _ but_upd ⟨_, _, _, upd_same, x0, xb, y0, y1, by omega, by omega⟩ (dm _).1 (dm _).2
end

section
variable {P : Program} {w : World} {K : PySem.W.Frag} {mg : Str → Option Value} {base : Heap} {cMatchError cBadShape cBadCount cBadBalance cStem cBuilder : Addr}
theorem putK_len {κ : Type} [DecidableEq κ] (kvs : List (κ × V)) (k : κ) (v : V) : (putK kvs k v).length ≤ kvs.length + 1 := by
  unfold putK
  split
  · rw [List.length_map]
    omega
  · rw [List.length_append]
    exact Nat.le_refl _
def spLEven (K : PySem.W.Frag) (n : Nat) : Sp := fun vs H Q _ => ∃ p kvs, ∃ wd : Nat, vs = [.int wd, .ref p] ∧ H p = some (.dK kvs) ∧ EvP K H kvs ∧ 1 ≤ wd ∧ 2 * wd ≤ 2 ^ n ∧ kvs.length + 2 * wd ≤ 10000000 ∧
  ∀ v kvs' H', But p H H' → H' p = some (.dK kvs') → EvP K H' kvs' → kvs'.length ≤ kvs.length + 2 * wd - 1 → PairAt K H' v (evT wd) → Q v H'
theorem ok__law_even (T : Top K mg cMatchError cBadShape cBadCount cBadBalance cStem cBuilder) : ∀ n, Cl P w K mg base (n + 2) "_law_even" ["width", "known"] (spLEven K n)
  | 0 => by
    exact T.d__law_even.never fun vs H Q E h => by
      obtain ⟨p, kvs, wd, _, _, _, h1, h2, _⟩ := h
      have h2 : 2 * wd ≤ 1 := h2
      omega
  | n + 1 => by
    have ih := ok__law_even T n
    have c__law_pair := ok__law_pair (P := P) (w := w) (base := base) T
    refine T.d__law_even.ok sc__law_even (fun vs H Q E h => ?_) (fun f cdv A outer s H vs Q E hr h => ?_)
    · obtain ⟨p, kvs, wd, rfl, _⟩ := h
      rfl
    · refine ⟨_, (pss_cons (ps_if (pt_cmp (pc_dnotin (hu_of hr) (pv 0) (pv 1))) (pss_one (ps_dput (hu_of hr) (pv 1) (pv 0) (pcN c__law_pair hr (by omega) (pa_cons (pcN ih hr (Nat.le_refl _) (pa_cons (pe_op op_fdivW (pe_op op_add (pv 0) pe_int) pe_int) (pa_cons (pv 1) pa_nil))) (pa_cons (pcN ih hr (Nat.le_refl _) (pa_cons (pe_op op_fdivW (pv 0) pe_int) (pa_cons (pv 1) pa_nil))) pa_nil))) (by rfl))) pss_nil)
      (pss_one (ps_ret (pe_dget (hu_of hr) (pv 1) (pv 0) (fun _ _ ↦ rfl))))), ?_⟩
      obtain ⟨p, kvs, wd, rfl, hp, ev, h1, h2, h3, q⟩ := h
      refine ⟨_, rfl, _, rfl, p, _, rfl, DGet.k (k := .inl (wd : Int)) hp, ?_⟩
      have cd : CDivW ((wd : Int) + 1) 2 ∧ CDivW (wd : Int) 2 := ⟨⟨by decide, by decide⟩, ⟨by decide, by decide⟩⟩
      cases hk : valV kvs (.inl (wd : Int)) with
      | some v =>
        refine ⟨_, rfl, iteF ?_⟩
        obtain ⟨n, e1, e2, e3⟩ := ev.all_ _ _ hk
        have e1 : (wd : Int) = n := Sum.inl.inj e1
        obtain rfl : wd = n := by omega
        refine ⟨_, rfl, _, rfl, p, v, rfl, ?_, q v kvs H (But.refl _ _) hp ev (by omega) e3⟩
        have := DGet.k (k := .inl (wd : Int)) hp
        rw [hk] at this
        exact this
      | none =>
        have w2 : 2 ≤ wd := by
          refine Nat.le_of_not_lt fun l => ?_
          obtain ⟨v0, e0⟩ := ev.one
          rw [show wd = 1 by omega] at hk
          rw [show ((1 : Nat) : Int) = 1 from rfl, e0] at hk
          cases hk
        have hd : 2 * ((wd + 1) / 2) ≤ 2 ^ n := by
          rw [Nat.pow_succ] at h2
          cases n with
          | zero => omega
          | succ e =>
            rw [Nat.pow_succ] at h2 ⊢
            omega
        have em1 : ((wd : Int) + 1) / 2 = (((wd + 1) / 2 : Nat) : Int) := by omega
        have em2 : (wd : Int) / 2 = ((wd / 2 : Nat) : Int) := by omega
        refine ⟨_, rfl, iteT ?_⟩
        refine ⟨_, rfl, _, _, rfl, rfl, _, _, rfl, rfl, cd.1, _, rfl, p, kvs, (wd + 1) / 2, congrArg (fun z => [V.int z, .ref p]) em1, hp, ev, by omega, hd, by omega, fun v1 k1 H1 b1 p1 ev1 l1 r1 => ?_⟩
        refine ⟨_, rfl, _, _, rfl, rfl, cd.2, _, rfl, p, k1, wd / 2, congrArg (fun z => [V.int z, .ref p]) em2, p1, ev1, by omega, by omega, by omega, fun v2 k2 H2 b2 p2 ev2 l2 r2 => ?_⟩
        have r12 := r1.off b2 p1 (evT_sh (by omega))
        refine ⟨v1, v2, _, _, rfl, r12, r2, fun u H3 S R => ?_⟩
        have p3 := S _ _ p2
        have ev3 := ev2.same S
        have R : PairAt K H3 u (evT wd) := by
          rw [evT_two w2]
          exact R
        have b12 := b1.trans b2
        have B3 : But p H H3 := b12.trans (But.of S)
        have sl : k2.length < sizeLine := Nat.lt_of_lt_of_le (show k2.length < 10000001 by omega) (by decide)
        refine ⟨_, rfl, _, rfl, p, _, rfl, DPut.k (k := .inl (wd : Int)) p3 sl, ?_⟩
        have p4 : upd H3 p (.dK (putK k2 (.inl (wd : Int)) u)) p = some (.dK (putK k2 (.inl (wd : Int)) u)) := upd_same
        have B4 : But p H3 (upd H3 p (.dK (putK k2 (.inl (wd : Int)) u))) := but_upd
        have R4 := R.off B4 p3 (evT_sh (by omega))
        have ev4 : EvP K (upd H3 p (.dK (putK k2 (.inl (wd : Int)) u))) (putK k2 (.inl (wd : Int)) u) := by
          refine ⟨?_, fun k v h => ?_⟩
          · rw [valV_put, if_neg (fun z => by have := Sum.inl.inj z; omega)]
            exact ev3.one
          · rw [valV_put] at h
            split at h
            · rename_i ek
              cases h
              exact ⟨wd, ek, by omega, R4⟩
            · obtain ⟨n, e1, e2, e3⟩ := ev3.all_ k v h
              exact ⟨n, e1, e2, e3.off B4 p3 (evT_sh e2)⟩
        have l4 := putK_len k2 (.inl (wd : Int)) u
        refine ⟨_, rfl, _, rfl, p, u, rfl, ?_, q _ _ _ (B3.trans B4) p4 ev4 (by omega) R4⟩
        have := DGet.k (k := .inl (wd : Int)) p4
        rw [valV_put, if_pos rfl] at this
        exact this
end

section
variable {P : Program} {w : World} {K : PySem.W.Frag} {mg : Str → Option Value} {base : Heap} {cMatchError cBadShape cBadCount cBadBalance cStem cBuilder : Addr}
theorem same_upd2' {H H1 : Hp} {x : Addr} {o : HO} (nx : H x = none) (s : Same H H1) : Same H (upd H1 x o) := fun b u e => by
  rw [upd_ne (ne_of_none e nx)]
  exact s b u e
theorem evp_start {K : PySem.W.Frag} {H : Hp} {v : V} (h : PairAt K H v .one) : EvP K H [(.inl 1, v)] := by
  refine ⟨⟨v, rfl⟩, fun k u h' => ?_⟩
  by_cases c : (Sum.inl 1 : Key) = k
  · subst c
    rw [show valV [((Sum.inl 1 : Key), v)] (.inl 1) = some v from rfl] at h'
    cases h'
    exact ⟨1, rfl, by decide, by rw [evT_one (by decide)]; exact h⟩
  · rw [valV_neg c] at h'
    cases h'
def spLWide (K : PySem.W.Frag) : Sp := fun vs H Q _ => ∃ p m, vs = [.ref p] ∧ FeedAt H p m ∧ m ≤ 1000 ∧ ∀ H' v t, But p H H' → PairAt K H' v t → Q v H'
theorem ok__law_wide (T : Top K mg cMatchError cBadShape cBadCount cBadBalance cStem cBuilder) : Cl P w K mg base 20 "_law_wide" ["feed"] (spLWide K) := by
  have c__law_draw := ok__law_draw (P := P) (w := w) (base := base) T
  have c__law_pair := ok__law_pair (P := P) (w := w) (base := base) T
  have c__law_even := ok__law_even (P := P) (w := w) (base := base) T 16
  refine T.d__law_wide.ok sc__law_wide (fun vs H Q E h => ?_) (fun f cdv A outer s H vs Q E hr h => ?_)
  · obtain ⟨_, _, rfl, _⟩ := h
    rfl
  · refine ⟨_, (pss_cons (ps_set (i := 1) sc__law_wide.nd rfl (.inl rfl) (pe_tup (pa_cons pe_non (pa_cons (pe_tup (pa_cons pe_int (pa_cons pe_int (pa_cons pe_bl pa_nil)))) pa_nil))))
      (pss_cons (ps_par (i := 2) (j := 3) (by rfl) sc__law_wide.nd rfl rfl (by decide) rfl rfl (pa_cons (pe_op op_add pe_int (pcN c__law_draw hr (by decide) (pa_cons (pv 0) (pa_cons pe_int pa_nil)))) (pa_cons (pcN c__law_draw hr (by decide) (pa_cons (pv 0) (pa_cons pe_int pa_nil))) pa_nil)) (by rfl))
      (pss_cons (ps_if (pt_cmpR op_eq (pv 3) pe_int (nomark _)) (pss_one (ps_ret (pcN c__law_even hr (by decide) (pa_cons (pv 2) (pa_cons (pe_disp (pps_cons pe_int (pv 1) pps_nil) (by rfl) (by rfl) (fun z => by cases z) (by decide)) pa_nil))))) pss_nil)
      (pss_cons (ps_if (pt_cmpR op_eq (pv 3) pe_int (nomark _)) (pss_one (ps_ret (pcN c__law_pair hr (by decide) (pa_cons (pv 1) (pa_cons (pcN c__law_even hr (by decide) (pa_cons (pe_op op_sub (pv 2) pe_int) (pa_cons (pe_disp (pps_cons pe_int (pv 1) pps_nil) (by rfl) (by rfl) (fun z => by cases z) (by decide)) pa_nil))) pa_nil))))) pss_nil)
      (pss_cons (ps_if (pt_cmpR op_eq (pv 3) pe_int (nomark _)) (pss_one (ps_ret (pcN c__law_pair hr (by decide) (pa_cons (pcN c__law_even hr (by decide) (pa_cons (pe_op op_sub (pv 2) pe_int) (pa_cons (pe_disp (pps_cons pe_int (pv 1) pps_nil) (by rfl) (by rfl) (fun z => by cases z) (by decide)) pa_nil))) (pa_cons (pv 1) pa_nil))))) pss_nil)
      (pss_cons (ps_set (i := 4) sc__law_wide.nd rfl (.inl rfl) (pv 1))
      (pss_cons (ps_for (passes_of rfl) rfl (pi_range1 (by rfl) T.n_range (pa_cons (pe_op op_add pe_int (pcN c__law_draw hr (by decide) (pa_cons (pv 0) (pa_cons pe_int pa_nil)))) pa_nil)) (pg_name (i := 5) sc__law_wide.nd rfl (.inl rfl)) (pss_one (ps_set (i := 4) sc__law_wide.nd rfl (.inl rfl) (pcN c__law_pair hr (by decide) (pa_cons (pv 4) (pa_cons (pv 4) pa_nil))))))
      (pss_one (ps_ret (pv 4)))))))))), ?_⟩
    obtain ⟨p, m, rfl, F0, hm, q⟩ := h
    have ll : ∀ z, z < 200 → z ≤ sizeLine := fun z h => Nat.le_trans (Nat.le_of_lt h) (by decide)
    refine ⟨ll 3 (by decide), fun b1 nb1 => ?_⟩
    have S1 := same_new (o := .tup [.int 1, .int 0, .bl true]) nb1
    have fb1 : upd H b1 (.tup [.int 1, .int 0, .bl true]) b1 = some (.tup [.int 1, .int 0, .bl true]) := upd_same
    generalize upd H b1 (.tup [.int 1, .int 0, .bl true]) = H1 at S1 fb1 ⊢
    refine ⟨ll 2 (by decide), fun a1 na1 => ?_⟩
    have S2 := same_new (o := .tup [.non, .ref b1]) na1
    have fa1 : upd H1 a1 (.tup [.non, .ref b1]) a1 = some (.tup [.non, .ref b1]) := upd_same
    generalize upd H1 a1 (.tup [.non, .ref b1]) = H2 at S2 fa1 ⊢
    have ch : PairAt K H2 (.ref a1) .one := child_at (sqT_of (S2 _ _ fb1)) (sqT_of fa1)
    have S12 := S1.trans S2
    have F2 := F0.same S12
    dsimp only [gName]
    refine ⟨_, rfl, p, m, 6, rfl, F2, by omega, by decide, by decide, fun H3 g3 b3 F3 g30 g31 => ⟨_, _, rfl, rfl, ?_⟩⟩
    refine ⟨_, rfl, p, m + 1, 4, rfl, F3, by omega, by decide, by decide, fun H4 g4 b4 F4 g40 g41 => ?_⟩
    refine ⟨_, _, rfl, ?_⟩
    have B4 : But p H H4 := (But.of S12).trans (b3.trans b4)
    have ch4 := ch.keep ((F2.keeps b3 F3).trans (F3.keeps b4 F4))
    obtain ⟨w1, e1⟩ : ∃ w1 : Nat, 19997 + g3 = (w1 : Int) := ⟨(19997 + g3).toNat, by omega⟩
    have p16 : (2 : Nat) ^ 16 = 65536 := by decide
    have dict : ∀ kd, H4 kd = none → Same H4 (upd (upd H4 kd (.dK [])) kd (.dK (mergeK [] [(.inl 1, .ref a1)]))) ∧ upd (upd H4 kd (.dK [])) kd (.dK (mergeK [] [(.inl 1, .ref a1)])) kd = some (.dK [(.inl 1, .ref a1)]) :=
      fun kd nk => ⟨same_upd2' nk (same_new nk), upd_same⟩
    have back : ∀ kd H5 H6, H4 kd = none → Same H4 H5 → But kd H5 H6 → But p H H6 ∧ Same H4 H6 := fun kd H5 H6 nk s b =>
      have s6 : Same H4 H6 := fun c o h => b c o (fun z => by rw [z, nk] at h; cases h) (s c o h)
      ⟨B4.trans (But.of s6), s6⟩
    refine ⟨_, rfl, rfl, _, rfl, ite2 (fun _ => ?_) (fun _ => ?_)⟩
    · refine ⟨_, rfl, fun kd nk => ⟨_, rfl, upd_same, [(.inl 1, .ref a1)], rfl, by show 1 ≤ 15; decide, ?_⟩⟩
      obtain ⟨S5, hk5⟩ := dict kd nk
      generalize upd (upd H4 kd (.dK [])) kd (.dK (mergeK [] [(.inl 1, .ref a1)])) = H5 at S5 hk5 ⊢
      refine ⟨kd, _, w1, congrArg (fun z => [V.int z, .ref kd]) e1, hk5, evp_start (ch4.keep (Keep.of S5)), by omega, by omega, by show 1 + 2 * w1 ≤ 10000000; omega, fun v kv H6 b6 hk6 ev6 l6 r6 => ?_⟩
      exact q H6 v _ (back kd H5 H6 nk S5 b6).1 r6
    refine ⟨_, rfl, rfl, _, rfl, ite2 (fun _ => ?_) (fun _ => ?_)⟩
    · refine ⟨_, rfl, _, rfl, _, _, rfl, rfl, fun kd nk => ⟨_, rfl, upd_same, [(.inl 1, .ref a1)], rfl, by show 1 ≤ 15; decide, ?_⟩⟩
      obtain ⟨S5, hk5⟩ := dict kd nk
      generalize upd (upd H4 kd (.dK [])) kd (.dK (mergeK [] [(.inl 1, .ref a1)])) = H5 at S5 hk5 ⊢
      refine ⟨kd, _, w1 - 1, congrArg (fun z => [V.int z, .ref kd]) (show 19997 + g3 - 1 = ((w1 - 1 : Nat) : Int) by omega), hk5, evp_start (ch4.keep (Keep.of S5)), by omega, by omega, by show 1 + 2 * (w1 - 1) ≤ 10000000; omega, fun v kv H6 b6 hk6 ev6 l6 r6 => ?_⟩
      obtain ⟨B6, s6⟩ := back kd H5 H6 nk S5 b6
      exact ⟨_, _, _, _, rfl, ch4.keep (Keep.of s6), r6, fun u H7 s7 r7 => q H7 u _ (B6.trans (But.of s7)) r7⟩
    refine ⟨_, rfl, rfl, _, rfl, ite2 (fun _ => ?_) (fun _ => ?_)⟩
    · refine ⟨_, rfl, _, _, rfl, rfl, fun kd nk => ⟨_, rfl, upd_same, [(.inl 1, .ref a1)], rfl, by show 1 ≤ 15; decide, ?_⟩⟩
      obtain ⟨S5, hk5⟩ := dict kd nk
      generalize upd (upd H4 kd (.dK [])) kd (.dK (mergeK [] [(.inl 1, .ref a1)])) = H5 at S5 hk5 ⊢
      refine ⟨kd, _, w1 - 1, congrArg (fun z => [V.int z, .ref kd]) (show 19997 + g3 - 1 = ((w1 - 1 : Nat) : Int) by omega), hk5, evp_start (ch4.keep (Keep.of S5)), by omega, by omega, by show 1 + 2 * (w1 - 1) ≤ 10000000; omega, fun v kv H6 b6 hk6 ev6 l6 r6 => ?_⟩
      obtain ⟨B6, s6⟩ := back kd H5 H6 nk S5 b6
      exact ⟨_, rfl, _, _, _, _, rfl, r6, ch4.keep (Keep.of s6), fun u H7 s7 r7 => q H7 u _ (B6.trans (But.of s7)) r7⟩
    refine ⟨_, rfl, ?_⟩
    refine ⟨_, rfl, p, m + 2, 2, rfl, F4, by omega, by decide, by decide, fun H5 g5 b5 F5 g50 g51 => ⟨_, _, rfl, rfl, ?_⟩⟩
    have ch5 := ch4.keep (F4.keeps b5 F5)
    refine ⟨_, rfl, by omega, by omega, for_range (lo := 0) (n := (14 + g5).toNat) (fun i σ H' => But p H H' ∧ ∃ x2 x3 v t x5, σ = [some (.ref p), some (.ref a1), x2, x3, some v, x5] ∧ PairAt K H' v t) ⟨B4.trans b5, _, _, _, _, none, rfl, ch5⟩ ?_ ?_⟩
    · rintro i σ H' hi ⟨b, x2, x3, v, t, x5, rfl, r⟩
      exact ⟨_, rfl, _, rfl, v, v, t, t, rfl, r, r, fun u H6 s6 r6 => ⟨b.trans (But.of s6), _, _, u, _, _, rfl, r6⟩⟩
    · rintro σ H' ⟨b, x2, x3, v, t, x5, rfl, r⟩
      exact ⟨_, rfl, q H' v t b r⟩
end

section
variable {P : Program} {w : World} {K : PySem.W.Frag} {mg : Str → Option Value} {base : Heap} {cMatchError cBadShape cBadCount cBadBalance cStem cBuilder : Addr}
/-- one of the things -/
def spOneX (K : PySem.W.Frag) : Sp := fun vs H Q _ => ∃ p n th, vs = [.ref p, th] ∧ FeedAt H p n ∧ n ≤ 1000000000 ∧
  ((∃ a xs, th = .ref a ∧ SqL K H a xs ∧ a ≠ p ∧ 0 < xs.length ∧ xs.length < 100000 ∧ ∀ H' x (g : Nat), But p H H' → FeedAt H' p (n + 1) → xs[g]? = some x → Q x H') ∨
   (∃ a xs, th = .ref a ∧ SqT K H a xs ∧ 0 < xs.length ∧ xs.length < 100000 ∧ ∀ H' x (g : Nat), But p H H' → FeedAt H' p (n + 1) → xs[g]? = some x → Q x H') ∨
   (∃ z : Str, th = .str z ∧ 0 < z.length ∧ z.length < 100000 ∧ ∀ H' c (g : Nat), But p H H' → FeedAt H' p (n + 1) → z.cps.toList[g]? = some c → Q (.str ⟨#[c]⟩) H'))
def spOne (K : PySem.W.Frag) : Sp := fun vs H Q _ => ∃ p n a xs, vs = [.ref p, .ref a] ∧ FeedAt H p n ∧ n ≤ 1000000000 ∧ SqL K H a xs ∧ a ≠ p ∧ 0 < xs.length ∧ xs.length < 100000 ∧
  ∀ H' x (g : Nat), But p H H' → FeedAt H' p (n + 1) → xs[g]? = some x → Q x H'
def spOneT (K : PySem.W.Frag) : Sp := fun vs H Q _ => ∃ p n a xs, vs = [.ref p, .ref a] ∧ FeedAt H p n ∧ n ≤ 1000000000 ∧ SqT K H a xs ∧ 0 < xs.length ∧ xs.length < 100000 ∧
  ∀ H' x (g : Nat), But p H H' → FeedAt H' p (n + 1) → xs[g]? = some x → Q x H'
def spOneS : Sp := fun vs H Q _ => ∃ p n, ∃ z : Str, vs = [.ref p, .str z] ∧ FeedAt H p n ∧ n ≤ 1000000000 ∧ 0 < z.length ∧ z.length < 100000 ∧
  ∀ H' c (g : Nat), But p H H' → FeedAt H' p (n + 1) → z.cps.toList[g]? = some c → Q (.str ⟨#[c]⟩) H'
theorem ok__law_oneX (T : Top K mg cMatchError cBadShape cBadCount cBadBalance cStem cBuilder) : Cl P w K mg base 2 "_law_one" ["feed", "things"] (spOneX K) := by
  have c__law_draw := ok__law_draw (P := P) (w := w) (base := base) T
  refine T.d__law_one.ok sc__law_one (fun vs H Q E h => ?_) (fun f cdv A outer s H vs Q E hr h => ?_)
  · obtain ⟨p, n, th, rfl, _⟩ := h
    rfl
  · refine ⟨_, (pss_one (ps_ret (pe_ix ix_seq (pv 1) (pcN c__law_draw hr (by decide) (pa_cons (pv 0) (pa_cons (pe_callB call_len (by rfl) T.n_len (by decide +kernel) (pa_cons (pv 1) pa_nil)) pa_nil))) (fun _ _ => rfl)))), ?_⟩
    obtain ⟨p, n, th, rfl, F, hn, h⟩ := h
    rcases h with ⟨a, xs, rfl, hS, ne, l0, l1, q⟩ | ⟨a, xs, rfl, hS, l0, l1, q⟩ | ⟨z, rfl, l0, l1, q⟩
    · refine ⟨_, rfl, _, rfl, _, rfl, _, xs.length, rfl, .inl ⟨_, hS, rfl⟩, p, n, xs.length, rfl, F, hn, by omega, by omega, fun H' g b F' g0 g1 => ?_⟩
      obtain ⟨j, rfl⟩ : ∃ j : Nat, g = j := ⟨g.toNat, by omega⟩
      have hj : j < xs.length := by omega
      exact .inl ⟨a, xs, _, _, rfl, rfl, b.seqL ne hS, atI_nat (j := j) (List.getElem?_eq_getElem hj), q _ _ j b F' (List.getElem?_eq_getElem hj)⟩
    · refine ⟨_, rfl, _, rfl, _, rfl, _, xs.length, rfl, .inr ⟨_, hS, rfl⟩, p, n, xs.length, rfl, F, hn, by omega, by omega, fun H' g b F' g0 g1 => ?_⟩
      obtain ⟨j, rfl⟩ : ∃ j : Nat, g = j := ⟨g.toNat, by omega⟩
      have hj : j < xs.length := by omega
      obtain ⟨ys, hy⟩ := F.lst
      exact .inr (.inl ⟨a, xs, _, _, rfl, rfl, b.seqT hy hS, atI_nat (j := j) (List.getElem?_eq_getElem hj), q _ _ j b F' (List.getElem?_eq_getElem hj)⟩)
    · refine ⟨_, rfl, _, rfl, _, rfl, _, z.length, rfl, ⟨Nat.le_trans (Nat.le_of_lt l1) (by decide), rfl⟩, p, n, z.length, rfl, F, hn, by omega, by omega, fun H' g b F' g0 g1 => ?_⟩
      obtain ⟨j, rfl⟩ : ∃ j : Nat, g = j := ⟨g.toNat, by omega⟩
      have hj : j < z.cps.toList.length := by
        have : z.length = z.cps.toList.length := by simp [Str.length]
        omega
      exact .inr (.inr ⟨z, _, _, rfl, rfl, Nat.le_trans (Nat.le_of_lt l1) (by decide), atI_nat (j := j) (List.getElem?_eq_getElem hj), q _ _ j b F' (List.getElem?_eq_getElem hj)⟩)
theorem ok__law_one (T : Top K mg cMatchError cBadShape cBadCount cBadBalance cStem cBuilder) : Cl P w K mg base 2 "_law_one" ["feed", "things"] (spOne K) := (ok__law_oneX T).imp fun vs H Q E h => by
  obtain ⟨p, n, a, xs, h1, h2, h3, h4⟩ := h
  exact ⟨p, n, _, h1, h2, h3, .inl ⟨a, xs, rfl, h4⟩⟩
theorem ok__law_oneT (T : Top K mg cMatchError cBadShape cBadCount cBadBalance cStem cBuilder) : Cl P w K mg base 2 "_law_one" ["feed", "things"] (spOneT K) := (ok__law_oneX T).imp fun vs H Q E h => by
  obtain ⟨p, n, a, xs, h1, h2, h3, h4⟩ := h
  exact ⟨p, n, _, h1, h2, h3, .inr (.inl ⟨a, xs, rfl, h4⟩)⟩
theorem ok__law_oneS (T : Top K mg cMatchError cBadShape cBadCount cBadBalance cStem cBuilder) : Cl P w K mg base 2 "_law_one" ["feed", "things"] spOneS := (ok__law_oneX T).imp fun vs H Q E h => by
  obtain ⟨p, n, z, h1, h2, h3, h4⟩ := h
  exact ⟨p, n, _, h1, h2, h3, .inr (.inr ⟨z, rfl, h4⟩)⟩
end

section
variable {P : Program} {w : World} {K : PySem.W.Frag} {mg : Str → Option Value} {base : Heap} {cMatchError cBadShape cBadCount cBadBalance cStem cBuilder : Addr}
theorem ty_dk {K : PySem.W.Frag} {H : Hp} {a : Addr} {kvs : List (Key × V)} (h : H a = some (.dK kvs)) : TyX K H (.ref a) (.type "dict") := .base (.dK h)
/-- what stands in the pool -/
def PoolOk (K : PySem.W.Frag) (H : Hp) (xs : List V) : Prop := ∀ x ∈ xs, ∃ t, PairAt K H x t
theorem PoolOk.keep {K : PySem.W.Frag} {H H' : Hp} {xs : List V} (k : Keep H H') (h : PoolOk K H xs) : PoolOk K H' xs := fun x hx => by
  obtain ⟨t, r⟩ := h x hx
  exact ⟨t, r.keep k⟩
theorem ixN_at {n j : Nat} (hj : j < n) : ixN n (j : Int) = some j := by
  unfold ixN
  rw [if_pos (by omega), if_pos (by omega)]
  simp
theorem But.upd_new {H H1 : Hp} {p D : Addr} {o : HO} (b : But p H H1) (n : H D = none) : But p H (upd H1 D o) := fun c u nc h => by
  rw [upd_ne (ne_of_none h n)]
  exact b c u nc h
def spLGrown (K : PySem.W.Frag) : Sp := fun vs H Q _ => ∃ p m, ∃ many : Nat, ∃ spoil : Int, vs = [.ref p, .int many, .int spoil] ∧ FeedAt H p m ∧ m ≤ 300000 ∧ 1 ≤ many ∧ many ≤ 24 ∧ 0 ≤ spoil ∧
  ∀ H' v t, But p H H' → FeedAt H' p (m + 40) → PairAt K H' v t → Q v H'
theorem ok__law_grown (T : Top K mg cMatchError cBadShape cBadCount cBadBalance cStem cBuilder) : Cl P w K mg base 4 "_law_grown" ["feed", "many", "spoil"] (spLGrown K) := by
  have c__law_draw := ok__law_draw (P := P) (w := w) (base := base) T
  have c__law_one := ok__law_one (P := P) (w := w) (base := base) T
  have c__law_pair := ok__law_pair (P := P) (w := w) (base := base) T
  refine T.d__law_grown.ok sc__law_grown (fun vs H Q E h => ?_) (fun f cdv A outer s H vs Q E hr h => ?_)
  · obtain ⟨_, _, _, _, rfl, _⟩ := h
    rfl
  · refine ⟨_, (pss_cons (ps_setLc (i := 3) (own := [("place", 7)]) (g := gName 7) (tt := tYes) (by rfl) sc__law_grown.nd rfl rfl (sw_true rfl rfl rfl (by decide +kernel)) (pi_range1 (by rfl) T.n_range (pa_cons (pv 1) pa_nil)) (blkOk_by (own := [("place", 7)]) (N := nm__law_grown) (sc := defScope s__law_grown) (by decide +kernel)) (fun _ _ _ _ _ => (pg_name (i := 7) sc__law_grown.nd rfl (.inl rfl))) (fun _ _ _ _ _ => pts_nil) (fun _ _ _ _ _ => (pe_tup (pa_cons pe_non (pa_cons (pe_tup (pa_cons pe_int (pa_cons pe_int (pa_cons pe_bl pa_nil)))) pa_nil)))))
      (C8.pss_cut (ps_if (pt_cmpR op_lt (pv 2) (pv 1) (nomark _)) (pss_cons (ps_set (i := 4) sc__law_grown.nd rfl (.inl rfl) (pe_lst (pa_cons pe_bl (pa_cons pe_bl (pa_cons pe_int (pa_cons pe_int (pa_cons pe_str (pa_cons pe_str (pa_cons (pe_tup pa_nil) (pa_cons (pe_lst pa_nil) (pa_cons pe_dnewK (pa_cons (pe_tup (pa_cons pe_non pa_nil)) (pa_cons (pe_lst (pa_cons pe_non (pa_cons pe_non pa_nil))) (pa_cons (pe_tup (pa_cons pe_non (pa_cons pe_non (pa_cons pe_non pa_nil)))) pa_nil))))))))))))))
      (pss_one (ps_asg (pe_tup (pa_cons (pcN c__law_one hr (by decide) (pa_cons (pv 0) (pa_cons (pv 4) pa_nil))) (pa_cons pe_non pa_nil))) (pg_sub (pv 3) (pv 2) set_list)))) pss_nil)
      (pss_cons (ps_for (passes_of rfl) rfl (pi_range1 (by rfl) T.n_range (pa_cons (pe_op op_sub (pv 1) pe_int) pa_nil)) (pg_name (i := 5) sc__law_grown.nd rfl (.inl rfl)) (pss_cons (ps_set (i := 6) sc__law_grown.nd rfl (.inl rfl) (pcN c__law_draw hr (by decide) (pa_cons (pv 0) (pa_cons (pe_op op_sub (pe_callB call_len_seq (by rfl) T.n_len (by decide +kernel) (pa_cons (pv 3) pa_nil)) pe_int) pa_nil))))
      (pss_one (ps_setSl (pe_lst (pa_cons (pcN c__law_pair hr (by decide) (pa_cons (pe_ix ix_list (pv 3) (pv 6) (fun _ _ => rfl)) (pa_cons (pe_ix ix_list (pv 3) (pe_op op_add (pv 6) pe_int) (fun _ _ => rfl)) pa_nil))) pa_nil)) (pv 3) (pv 6) (pe_op op_add (pv 6) pe_int)))))
      (pss_one (ps_ret (pe_ix ix_list (pv 3) pe_int (fun _ _ => rfl))))))), ?_⟩
    obtain ⟨p, m, many, spoil, rfl, F0, hm, m1, m2, hs, q⟩ := h
    have ll : ∀ z, z < 200 → z ≤ sizeLine := fun z h => Nat.le_trans (Nat.le_of_lt h) (by decide)
    refine ⟨_, rfl, _, rfl, by omega, by omega, fun D nD0 => lc_range (lo := 0) (n := (many : Int).toNat) (fun i H' => ∃ acc, Mk H D acc H' ∧ acc.length = i ∧ PoolOk K H' acc) ⟨[], Mk.start nD0, rfl, fun x hx => by cases hx⟩ ?_ ?_⟩
    · rintro i H' hi ⟨acc, M, la, Pa⟩
      rw [Int.toNat_natCast] at hi
      refine ⟨rfl, ?_⟩
      refine ⟨ll 3 (by decide), fun b nb => ?_⟩
      have S1 := same_new (o := .tup [.int 1, .int 0, .bl true]) nb
      have fb : upd H' b (.tup [.int 1, .int 0, .bl true]) b = some (.tup [.int 1, .int 0, .bl true]) := upd_same
      generalize upd H' b (.tup [.int 1, .int 0, .bl true]) = H2 at S1 fb ⊢
      refine ⟨ll 2 (by decide), fun a na => ?_⟩
      have S2 := same_new (o := .tup [.non, .ref b]) na
      have fa : upd H2 a (.tup [.non, .ref b]) a = some (.tup [.non, .ref b]) := upd_same
      generalize upd H2 a (.tup [.non, .ref b]) = H3 at S2 fa ⊢
      have M3 := (M.next S1).next S2
      have Pa3 := Pa.keep (Keep.of (S1.trans S2))
      have c3 : PairAt K H3 (.ref a) .one := child_at (sqT_of (S2 _ _ fb)) (sqT_of fa)
      refine ⟨acc, M3.at_, Nat.lt_of_lt_of_le (show acc.length < 30 by omega) (by decide), acc ++ [.ref a], M3.push nD0 _, by rw [List.length_append, la]; rfl, ?_⟩
      have kd := Keep.upd (ys := acc ++ [V.ref a]) M3.at_
      intro x hx
      rcases List.mem_append.mp hx with h | h
      · exact Pa3.keep kd x h
      · rw [List.mem_singleton.mp h]
        exact ⟨.one, c3.keep kd⟩
    rintro H1 ⟨acc, M, la, Pa⟩
    rw [Int.toNat_natCast] at la
    have S12 := M.same
    have hD := M.at_
    have F1 := F0.same S12
    have neD : D ≠ p := F0.ne nD0
    refine ⟨fun σ' H' => But p H H' ∧ FeedAt H' p (m + 1) ∧ ∃ xs y4, H' D = some (.lst xs) ∧ xs.length = many ∧ PoolOk K H' xs ∧ σ' = [some (.ref p), some (.int many), some (.int spoil), some (.ref D), y4, none, none, none], ?_, ?_⟩
    · refine ⟨_, rfl, _, rfl, _, _, rfl, rfl, _, rfl, ite2 (fun e => ?_) (fun e => ?_)⟩
      · have e0 : spoil < many := of_decide_eq_true e
        refine ⟨ll 0 (by decide), fun a1 n1 => ?_⟩
        have T1 := same_new (o := .tup []) n1
        have G1 := F1.new (o := .tup []) n1
        have f1 : upd H1 a1 (.tup []) a1 = some (.tup []) := upd_same
        generalize upd H1 a1 (.tup []) = K1 at T1 G1 f1 ⊢
        refine ⟨ll 0 (by decide), fun a2 n2 => ?_⟩
        have T2 := same_new (o := .lst []) n2
        have G2 := G1.new (o := .lst []) n2
        have f2 : upd K1 a2 (.lst []) a2 = some (.lst []) := upd_same
        generalize upd K1 a2 (.lst []) = K2 at T2 G2 f2 ⊢
        refine fun a3 n3 => ?_
        have T3 := same_new (o := .dK []) n3
        have G3 := G2.new (o := .dK []) n3
        have f3 : upd K2 a3 (.dK []) a3 = some (.dK []) := upd_same
        generalize upd K2 a3 (.dK []) = K3 at T3 G3 f3 ⊢
        refine ⟨ll 1 (by decide), fun a4 n4 => ?_⟩
        have T4 := same_new (o := .tup [.non]) n4
        have G4 := G3.new (o := .tup [.non]) n4
        have f4 : upd K3 a4 (.tup [.non]) a4 = some (.tup [.non]) := upd_same
        generalize upd K3 a4 (.tup [.non]) = K4 at T4 G4 f4 ⊢
        refine ⟨ll 2 (by decide), fun a5 n5 => ?_⟩
        have T5 := same_new (o := .lst [.non, .non]) n5
        have G5 := G4.new (o := .lst [.non, .non]) n5
        have f5 : upd K4 a5 (.lst [.non, .non]) a5 = some (.lst [.non, .non]) := upd_same
        generalize upd K4 a5 (.lst [.non, .non]) = K5 at T5 G5 f5 ⊢
        refine ⟨ll 3 (by decide), fun a6 n6 => ?_⟩
        have T6 := same_new (o := .tup [.non, .non, .non]) n6
        have G6 := G5.new (o := .tup [.non, .non, .non]) n6
        have f6 : upd K5 a6 (.tup [.non, .non, .non]) a6 = some (.tup [.non, .non, .non]) := upd_same
        generalize upd K5 a6 (.tup [.non, .non, .non]) = K6 at T6 G6 f6 ⊢
        refine ⟨ll 12 (by decide), fun a7 n7 => ?_⟩
        have ne7 := G6.ne n7
        refine ⟨_, rfl, _, rfl, p, m, a7, _, rfl, G6.new n7, by omega, sqL_of upd_same, ne7, by show 0 < 12; decide, by show 12 < 100000; decide, fun H9 x g b9 F9 hx => ?_⟩
        have T7 := same_new (o := HO.lst [.bl true, .bl false, .int 0, .int 1, .str "", .str "a", .ref a1, .ref a2, .ref a3, .ref a4, .ref a5, .ref a6]) n7
        have kp : Keep K6 H9 := (Keep.of T7).trans ((G6.new n7).keeps b9 F9)
        have T17 : Same H1 _ := (T1.trans (T2.trans (T3.trans (T4.trans (T5.trans (T6.trans T7))))))
        have B9 : But p H1 H9 := (But.of T17).trans b9
        have r1 := T6 _ _ (T5 _ _ (T4 _ _ (T3 _ _ (T2 _ _ f1))))
        have r2 := T6 _ _ (T5 _ _ (T4 _ _ (T3 _ _ f2)))
        have r3 := T6 _ _ (T5 _ _ (T4 _ _ f3))
        have r4 := T6 _ _ (T5 _ _ f4)
        have r5 := T6 _ _ f5
        have X : RepTh K H9 x .other ∧ ∃ em, EmpQ K H9 x em := by
          have k : ∀ v n, TyX K K6 v (.type n) → n ∈ kinds → v ≠ .non → (n = "tuple" → ∃ a xs, v = .ref a ∧ SqT K K6 a xs ∧ xs.length ≠ 2) → x = v → (∃ em, EmpQ K K6 v em) → RepTh K H9 x .other ∧ ∃ em, EmpQ K H9 x em := fun v n h1 h2 h3 h4 e h5 => by
            subst e
            obtain ⟨em, h5⟩ := h5
            exact ⟨(RepTh.other h1 h2 h3 h4).keep kp, em, h5.keep kp⟩
          match g, hx with
          | 0, hx => cases hx; exact k _ "bool" (ty_bl _) (by decide) (fun z => by cases z) (fun z => absurd z (by decide)) rfl ⟨_, .oth (.bl _)⟩
          | 1, hx => cases hx; exact k _ "bool" (ty_bl _) (by decide) (fun z => by cases z) (fun z => absurd z (by decide)) rfl ⟨_, .oth (.bl _)⟩
          | 2, hx => cases hx; exact k _ "int" (ty_int _) (by decide) (fun z => by cases z) (fun z => absurd z (by decide)) rfl ⟨_, .oth (.int _)⟩
          | 3, hx => cases hx; exact k _ "int" (ty_int _) (by decide) (fun z => by cases z) (fun z => absurd z (by decide)) rfl ⟨_, .oth (.int _)⟩
          | 4, hx => cases hx; exact k _ "str" (ty_str _) (by decide) (fun z => by cases z) (fun z => absurd z (by decide)) rfl ⟨_, .oth (.str _ (by decide +kernel))⟩
          | 5, hx => cases hx; exact k _ "str" (ty_str _) (by decide) (fun z => by cases z) (fun z => absurd z (by decide)) rfl ⟨_, .oth (.str _ (by decide +kernel))⟩
          | 6, hx => cases hx; exact k _ "tuple" (ty_t (sqT_of r1)) (by decide) (fun z => by cases z) (fun _ => ⟨a1, [], rfl, sqT_of r1, by decide⟩) rfl ⟨_, .tup (sqT_of r1)⟩
          | 7, hx => cases hx; exact k _ "list" (ty_l (sqL_of r2)) (by decide) (fun z => by cases z) (fun z => absurd z (by decide)) rfl ⟨_, .oth (.lst (sqL_of r2))⟩
          | 8, hx => cases hx; exact k _ "dict" (ty_dk r3) (by decide) (fun z => by cases z) (fun z => absurd z (by decide)) rfl ⟨_, .oth (.dic r3)⟩
          | 9, hx => cases hx; exact k _ "tuple" (ty_t (sqT_of r4)) (by decide) (fun z => by cases z) (fun _ => ⟨a4, [.non], rfl, sqT_of r4, by show 1 ≠ 2; decide⟩) rfl ⟨_, .tup (sqT_of r4)⟩
          | 10, hx => cases hx; exact k _ "list" (ty_l (sqL_of r5)) (by decide) (fun z => by cases z) (fun z => absurd z (by decide)) rfl ⟨_, .oth (.lst (sqL_of r5))⟩
          | 11, hx => cases hx; exact k _ "tuple" (ty_t (sqT_of f6)) (by decide) (fun z => by cases z) (fun _ => ⟨a6, [.non, .non, .non], rfl, sqT_of f6, by show 3 ≠ 2; decide⟩) rfl ⟨_, .tup (sqT_of f6)⟩
          | n + 12, hx => cases hx
        obtain ⟨Xr, em, Xe⟩ := X
        refine ⟨ll 2 (by decide), fun a8 n8 => ?_⟩
        have T8 := same_new (o := .tup [x, .non]) n8
        have P8 : PairAt K (upd H9 a8 (.tup [x, .non])) (.ref a8) .other := ⟨a8, x, .non, rfl, sqT_of upd_same, Xr.keep (Keep.of T8), ⟨em, Xe.keep (Keep.of T8)⟩, .inl ⟨fun g => (by cases g.1), rfl⟩⟩
        have F10 := F9.same T8
        have B10 : But p H1 (upd H9 a8 (.tup [x, .non])) := B9.trans (But.of T8)
        have k10 : Keep H1 (upd H9 a8 (.tup [x, .non])) := ((Keep.of (T1.trans (T2.trans (T3.trans (T4.trans (T5.trans T6)))))).trans kp).trans (Keep.of T8)
        generalize upd H9 a8 (.tup [x, .non]) = H10 at P8 F10 B10 k10 ⊢
        have hD9 := B10 D _ neD hD
        have P9 := Pa.keep k10
        refine ⟨_, rfl, _, rfl, D, _, spoil, spoil.toNat, rfl, rfl, hD9, ?_, ?_⟩
        · obtain ⟨sp, es⟩ : ∃ sp : Nat, spoil = sp := ⟨spoil.toNat, by omega⟩
          rw [es, Int.toNat_natCast]
          exact ixN_at (by omega)
        · refine ⟨((But.of S12).trans B10).upd_new nD0, F10.keep (fun o e => by rw [upd_ne (Ne.symm neD)]; exact e), _, _, upd_same, by rw [List.length_set, la], ?_, rfl⟩
          intro y hy
          have kd := Keep.upd (ys := acc.set spoil.toNat (.ref a8)) hD9
          rcases List.mem_or_eq_of_mem_set hy with hy | rfl
          · exact P9.keep kd y hy
          · exact ⟨.other, P8.keep kd⟩
      · exact ⟨But.of S12, F1.mono (by omega), _, none, hD, la, Pa, rfl⟩
    · rintro σ' H2 ⟨b2, F2, xs, y4, hD2, lx, P2, rfl⟩
      refine ⟨_, rfl, _, _, rfl, rfl, _, rfl, by omega, by omega, for_range (lo := 0) (n := ((many : Int) - 1).toNat) (fun i σ H' => But p H H' ∧ FeedAt H' p (m + 1 + i) ∧ ∃ xs x5 x6, H' D = some (.lst xs) ∧ xs.length + i = many ∧ PoolOk K H' xs ∧ σ = [some (.ref p), some (.int many), some (.int spoil), some (.ref D), y4, x5, x6, none]) ⟨b2, F2, xs, none, none, hD2, lx, P2, rfl⟩ ?_ ?_⟩
      · rintro i σ H' hi ⟨b3, F3, ys, x5, x6, hD3, ly, P3, rfl⟩
        have hi : i < many - 1 := by omega
        refine ⟨_, rfl, _, rfl, D, ys, rfl, .inl (sqL_of hD3), _, _, rfl, rfl, p, m + 1 + i, _, rfl, F3, by omega, by omega, by omega, fun H4 g b4 F4 g0 g1 => ?_⟩
        have hD4 := b4 D _ neD hD3
        have P4 := P3.keep (F3.keeps b4 F4)
        obtain ⟨at_, rfl⟩ : ∃ at_ : Nat, g = at_ := ⟨g.toNat, by omega⟩
        have la : at_ + 1 < ys.length := by omega
        obtain ⟨t1, r1⟩ := P4 _ (List.getElem_mem (show at_ < ys.length by omega))
        obtain ⟨t2, r2⟩ := P4 _ (List.getElem_mem la)
        refine ⟨_, rfl, _, rfl, D, ys, _, ys[at_], rfl, rfl, sqL_of hD4, atI_nat (j := at_) (List.getElem?_eq_getElem (by omega)), ?_⟩
        refine ⟨_, rfl, _, rfl, _, _, rfl, rfl, D, ys, _, ys[at_ + 1], rfl, rfl, sqL_of hD4, ?_, ?_⟩
        · show atI ys ((at_ : Int) + 1) = _
          rw [show (at_ : Int) + 1 = ((at_ + 1 : Nat) : Int) by omega]
          exact atI_nat (List.getElem?_eq_getElem la)
        refine ⟨_, _, t1, t2, rfl, r1, r2, fun v H5 U1 r5 => ?_⟩
        have L1 := F4.same U1
        refine ⟨by show 1 ≤ sizeLine; decide, fun b nb => ?_⟩
        have U2 := same_new (o := .lst [v]) nb
        have fb : upd H5 b (.lst [v]) b = some (.lst [v]) := upd_same
        have L2 := L1.new (o := .lst [v]) nb
        have nDb : D ≠ b := fun z => by
          have := U1 _ _ hD4
          rw [z, nb] at this
          cases this
        generalize upd H5 b (.lst [v]) = H6 at U2 fb L2 ⊢
        have hD6 := U2 _ _ (U1 _ _ hD4)
        have P6 := P4.keep (Keep.of (U1.trans U2))
        have r6 := r5.keep (Keep.of U2)
        refine ⟨_, rfl, _, rfl, _, rfl, _, rfl, _, _, rfl, rfl, _, D, b, ys, [v], rfl, rfl, rfl, hD6, fb, nDb, by omega, by omega, by omega, ?_, ?_⟩
        · exact Nat.le_trans (show ys.length + 1 ≤ 25 by omega) (by decide)
        rw [Int.toNat_natCast, show ((at_ : Int) + 2).toNat = at_ + 2 by omega]
        have kd := Keep.upd (ys := ys.take at_ ++ [v] ++ ys.drop (at_ + 2)) hD6
        refine ⟨((b3.trans b4).trans (But.of (U1.trans U2))).upd_new nD0, L2.keep (fun o e => by rw [upd_ne (Ne.symm neD)]; exact e), _, _, _, upd_same, ?_, ?_, rfl⟩
        · rw [List.length_append, List.length_append, List.length_take, List.length_drop]
          show min at_ ys.length + 1 + (ys.length - (at_ + 2)) + (i + 1) = many
          omega
        · intro y hy
          rw [List.append_assoc, List.mem_append, List.mem_append] at hy
          rcases hy with hy | hy | hy
          · exact P6.keep kd y (List.mem_of_mem_take hy)
          · rw [List.mem_singleton.mp hy]
            exact ⟨_, r6.keep kd⟩
          · exact P6.keep kd y (List.mem_of_mem_drop hy)
      · rintro σ H' ⟨b3, F3, ys, x5, x6, hD3, ly, P3, rfl⟩
        have l1 : 0 < ys.length := by omega
        obtain ⟨t, r⟩ := P3 _ (List.getElem_mem l1)
        exact ⟨_, rfl, D, ys, _, ys[0], rfl, rfl, sqL_of hD3, atI_nat (j := 0) (List.getElem?_eq_getElem l1), q H' _ t b3 (F3.mono (by omega)) r⟩
end

section
variable {P : Program} {w : World} {K : PySem.W.Frag} {mg : Str → Option Value} {base : Heap} {cMatchError cBadShape cBadCount cBadBalance cStem cBuilder : Addr}
def spLComb (K : PySem.W.Frag) : Sp := fun vs H Q _ => ∃ p m, ∃ many : Nat, vs = [.ref p, .int many] ∧ FeedAt H p m ∧ m ≤ 300000 ∧ 1 ≤ many ∧ many ≤ 50 ∧ ∀ H' v t, But p H H' → FeedAt H' p (m + 50) → PairAt K H' v t → Q v H'
theorem ok__law_comb (T : Top K mg cMatchError cBadShape cBadCount cBadBalance cStem cBuilder) : Cl P w K mg base 4 "_law_comb" ["feed", "many"] (spLComb K) := by
  have c__law_draw := ok__law_draw (P := P) (w := w) (base := base) T
  have c__law_pair := ok__law_pair (P := P) (w := w) (base := base) T
  refine T.d__law_comb.ok sc__law_comb (fun vs H Q E h => ?_) (fun f cdv A outer s H vs Q E hr h => ?_)
  · obtain ⟨_, _, _, rfl, _⟩ := h
    rfl
  · refine ⟨_, (pss_cons (ps_asg (pe_tup (pa_cons (pe_tup (pa_cons pe_non (pa_cons (pe_tup (pa_cons pe_int (pa_cons pe_int (pa_cons pe_bl pa_nil)))) pa_nil))) (pa_cons (pe_tup (pa_cons pe_non (pa_cons (pe_tup (pa_cons pe_int (pa_cons pe_int (pa_cons pe_bl pa_nil)))) pa_nil))) pa_nil))) (pg_tup rfl (pgs_cons (pg_name (i := 2) sc__law_comb.nd rfl (.inl rfl)) (pgs_cons (pg_name (i := 3) sc__law_comb.nd rfl (.inl rfl)) pgs_nil))))
      (pss_cons (ps_for (passes_of rfl) rfl (pi_range1 (by rfl) T.n_range (pa_cons (pe_op op_sub (pv 1) pe_int) pa_nil)) (pg_name (i := 4) sc__law_comb.nd rfl (.inl rfl)) (pss_one (ps_set (i := 2) sc__law_comb.nd rfl (.inl rfl) (pe_ifExp (pt_cmpR op_eq (pcN c__law_draw hr (by decide) (pa_cons (pv 0) (pa_cons pe_int pa_nil))) pe_int (nomark _)) (pcN c__law_pair hr (by decide) (pa_cons (pv 3) (pa_cons (pv 2) pa_nil))) (pcN c__law_pair hr (by decide) (pa_cons (pv 2) (pa_cons (pv 3) pa_nil)))))))
      (pss_one (ps_ret (pv 2))))), ?_⟩
    obtain ⟨p, m, many, rfl, F0, hm, m1, m2, q⟩ := h
    have ll : ∀ z, z < 200 → z ≤ sizeLine := fun z h => Nat.le_trans (Nat.le_of_lt h) (by decide)
    refine ⟨ll 3 (by decide), fun b1 nb1 => ?_⟩
    have S1 := same_new (o := .tup [.int 1, .int 0, .bl true]) nb1
    have fb1 : upd H b1 (.tup [.int 1, .int 0, .bl true]) b1 = some (.tup [.int 1, .int 0, .bl true]) := upd_same
    generalize upd H b1 (.tup [.int 1, .int 0, .bl true]) = H1 at S1 fb1 ⊢
    refine ⟨ll 2 (by decide), fun a1 na1 => ?_⟩
    have S2 := same_new (o := .tup [.non, .ref b1]) na1
    have fa1 : upd H1 a1 (.tup [.non, .ref b1]) a1 = some (.tup [.non, .ref b1]) := upd_same
    generalize upd H1 a1 (.tup [.non, .ref b1]) = H2 at S2 fa1 ⊢
    refine ⟨ll 3 (by decide), fun b2 nb2 => ?_⟩
    have S3 := same_new (o := .tup [.int 1, .int 0, .bl true]) nb2
    have fb2 : upd H2 b2 (.tup [.int 1, .int 0, .bl true]) b2 = some (.tup [.int 1, .int 0, .bl true]) := upd_same
    generalize upd H2 b2 (.tup [.int 1, .int 0, .bl true]) = H3 at S3 fb2 ⊢
    refine ⟨ll 2 (by decide), fun a2 na2 => ?_⟩
    have S4 := same_new (o := .tup [.non, .ref b2]) na2
    have S4' := S4
    have fa2 : upd H3 a2 (.tup [.non, .ref b2]) a2 = some (.tup [.non, .ref b2]) := upd_same
    generalize upd H3 a2 (.tup [.non, .ref b2]) = H4 at S4 S4' fa2 ⊢
    refine ⟨ll 2 (by decide), fun a3 na3 => ?_⟩
    have S5 := same_new (o := .tup [.ref a1, .ref a2]) na3
    have fa3 : upd H4 a3 (.tup [.ref a1, .ref a2]) a3 = some (.tup [.ref a1, .ref a2]) := upd_same
    have S4 := S4.trans S5
    have fa2 := S5 _ _ fa2
    have fb2 := S5 _ _ (S4' _ _ fb2)
    generalize upd H4 a3 (.tup [.ref a1, .ref a2]) = H4 at S4 fa2 fb2 fa3 ⊢
    have c1 : PairAt K H4 (.ref a1) .one := (child_at (sqT_of (S2 _ _ fb1)) (sqT_of fa1)).keep (Keep.of (S3.trans S4))
    have c2 : PairAt K H4 (.ref a2) .one := child_at (sqT_of fb2) (sqT_of fa2)
    have S14 := S1.trans (S2.trans (S3.trans S4))
    have F4 := F0.same S14
    refine ⟨a3, _, rfl, sqT_of fa3, rfl, _, _, rfl, _, _, rfl, rfl, ?_⟩
    refine ⟨_, rfl, _, _, rfl, rfl, _, rfl, by omega, by omega, for_range (lo := 0) (n := ((many : Int) - 1).toNat) (fun i σ H' => But p H H' ∧ FeedAt H' p (m + i) ∧ PairAt K H' (.ref a2) .one ∧ ∃ v t x4, σ = [some (.ref p), some (.int many), some v, some (.ref a2), x4] ∧ PairAt K H' v t) ⟨But.of S14, F4, c2, .ref a1, _, none, rfl, c1⟩ ?_ ?_⟩
    · rintro i σ H' hi ⟨b3, F3, ch, v, t, x4, rfl, r⟩
      refine ⟨_, rfl, p, m + i, 2, rfl, F3, by omega, by decide, by decide, fun H5 g b5 F5 _ _ => ⟨rfl, _, rfl, ?_⟩⟩
      have k5 := F3.keeps b5 F5
      have r5 := r.keep k5
      have ch5 := ch.keep k5
      refine ite2 (fun _ => ?_) (fun _ => ?_)
      · refine ⟨_, rfl, _, rfl, _, _, _, _, rfl, ch5, r5, fun u H6 s6 r6 => ?_⟩
        exact ⟨(b3.trans b5).trans (But.of s6), F5.same s6, ch5.keep (Keep.of s6), u, _, _, rfl, r6⟩
      · refine ⟨_, rfl, _, rfl, _, _, _, _, rfl, r5, ch5, fun u H6 s6 r6 => ?_⟩
        exact ⟨(b3.trans b5).trans (But.of s6), F5.same s6, ch5.keep (Keep.of s6), u, _, _, rfl, r6⟩
    · rintro σ H' ⟨b3, F3, ch, v, t, x4, rfl, r⟩
      exact ⟨_, rfl, q H' v t b3 (F3.mono (by omega)) r⟩
end

section
variable {P : Program} {w : World} {K : PySem.W.Frag} {mg : Str → Option Value} {base : Heap} {cMatchError cBadShape cBadCount cBadBalance cStem cBuilder : Addr}
def spLThing (K : PySem.W.Frag) : Sp := fun vs H Q _ => ∃ p m first, vs = [.ref p, .bl first] ∧ FeedAt H p m ∧ m ≤ 100 ∧ ∀ H' a u d t, But p H H' → SqT K H' a [u, d] → ThAt K H' u d t → Q (.ref a) H'
theorem ok__law_thing (T : Top K mg cMatchError cBadShape cBadCount cBadBalance cStem cBuilder) : Cl P w K mg base 21 "_law_thing" ["feed", "first"] (spLThing K) := by
  have c__law_draw := ok__law_draw (P := P) (w := w) (base := base) T
  have c__law_one := ok__law_one (P := P) (w := w) (base := base) T
  have c__law_pair := ok__law_pair (P := P) (w := w) (base := base) T
  have c__law_grown := ok__law_grown (P := P) (w := w) (base := base) T
  have c__law_comb := ok__law_comb (P := P) (w := w) (base := base) T
  have c__law_wide := ok__law_wide (P := P) (w := w) (base := base) T
  refine T.d__law_thing.ok sc__law_thing (fun vs H Q E h => ?_) (fun f cdv A outer s H vs Q E hr h => ?_)
  · obtain ⟨_, _, _, rfl, _⟩ := h
    rfl
  · refine ⟨_, (pss_cons (ps_set (i := 2) sc__law_thing.nd rfl (.inl rfl) (pcN c__law_draw hr (by decide) (pa_cons (pv 0) (pa_cons pe_int pa_nil))))
      (pss_cons (ps_set (i := 3) sc__law_thing.nd rfl (.inl rfl) (pe_op op_add pe_int (pcN c__law_draw hr (by decide) (pa_cons (pv 0) (pa_cons pe_int pa_nil)))))
      (C8.pss_cut (ps_if (PW.pt (pw_and (pt_cmpR op_eq (pv 2) pe_int (nomark _)) (pw_and1 (pt_val (pv 1))))) (pss_one (ps_ret (pcN c__law_wide hr (by decide) (pa_cons (pv 0) pa_nil)))) pss_nil)
      (pss_cons (ps_if (pt_cmpR op_lt (pv 2) pe_int (nomark _)) (pss_one (ps_ret (pcN c__law_grown hr (by decide) (pa_cons (pv 0) (pa_cons (pv 3) (pa_cons (pcN c__law_draw hr (by decide) (pa_cons (pv 0) (pa_cons (pe_op op_mul pe_int (pv 3)) pa_nil))) pa_nil)))))) pss_nil)
      (pss_cons (ps_if (pt_cmpR op_lt (pv 2) pe_int (nomark _)) (pss_one (ps_ret (pcN c__law_comb hr (by decide) (pa_cons (pv 0) (pa_cons (pe_op op_add pe_int (pcN c__law_draw hr (by decide) (pa_cons (pv 0) (pa_cons pe_int pa_nil)))) pa_nil))))) pss_nil)
      (pss_cons (ps_if (pt_cmpR op_eq (pv 2) pe_int (nomark _)) (pss_cons (ps_par (i := 4) (j := 5) (by rfl) sc__law_thing.nd rfl rfl (by decide) rfl rfl (pa_cons (pe_ix ix_tup (pcN c__law_grown hr (by decide) (pa_cons (pv 0) (pa_cons (pv 3) (pa_cons (pv 3) pa_nil)))) pe_int (fun _ _ => rfl)) (pa_cons (pe_ix ix_tup (pcN c__law_grown hr (by decide) (pa_cons (pv 0) (pa_cons (pe_op op_add pe_int (pe_op op_fdivW (pv 3) pe_int)) (pa_cons (pv 3) pa_nil)))) pe_int (fun _ _ => rfl)) pa_nil)) (by rfl))
      (pss_one (ps_ret (pe_tup (pa_cons (pcN c__law_one hr (by decide) (pa_cons (pv 0) (pa_cons (pe_lst (pa_cons (pe_lst (pa_cons (pv 4) (pa_cons (pv 5) pa_nil))) (pa_cons (pe_tup (pa_cons (pv 4) (pa_cons (pv 5) (pa_cons pe_non pa_nil)))) (pa_cons (pe_tup (pa_cons (pv 4) pa_nil)) (pa_cons (pe_lst (pa_cons (pv 4) pa_nil)) (pa_cons (pe_tup pa_nil) (pa_cons (pe_tup (pa_cons (pv 4) (pa_cons (pe_lst (pa_cons (pv 5) (pa_cons (pv 5) pa_nil))) pa_nil))) pa_nil))))))) pa_nil))) (pa_cons pe_non pa_nil)))))) pss_nil)
      (pss_cons (ps_if (pt_cmpR op_eq (pv 2) pe_int (nomark _)) (pss_one (ps_ret (pe_tup (pa_cons (pcN c__law_one hr (by decide) (pa_cons (pv 0) (pa_cons (pe_lst (pa_cons pe_bl (pa_cons pe_bl (pa_cons pe_int (pa_cons pe_int (pa_cons pe_int (pa_cons pe_str (pa_cons pe_str (pa_cons (pe_lst pa_nil) (pa_cons (pe_tup pa_nil) (pa_cons pe_dnewK (pa_cons (pe_lst (pa_cons pe_non (pa_cons pe_non pa_nil))) (pa_cons (pe_lst (pa_cons pe_non pa_nil)) (pa_cons (pe_tup (pa_cons pe_non pa_nil)) (pa_cons (pe_un un_neg pe_int) pa_nil))))))))))))))) pa_nil))) (pa_cons pe_non pa_nil))))) pss_nil)
      (pss_one (ps_ret (pcN c__law_pair hr (by decide) (pa_cons (pcN c__law_grown hr (by decide) (pa_cons (pv 0) (pa_cons (pv 3) (pa_cons (pv 3) pa_nil)))) (pa_cons (pcN c__law_comb hr (by decide) (pa_cons (pv 0) (pa_cons (pe_op op_add pe_int (pcN c__law_draw hr (by decide) (pa_cons (pv 0) (pa_cons pe_int pa_nil)))) pa_nil))) pa_nil)))))))))))), ?_⟩
    obtain ⟨p, m, first, rfl, F0, hm, q0⟩ := h
    have q : ∀ H' v t, But p H H' → PairAt K H' v t → Q v H' := fun H' v t b ⟨a, u, d, e, h1, h2⟩ => by
      subst e
      exact q0 H' a u d t b h1 h2
    have ll : ∀ z, z < 200 → z ≤ sizeLine := fun z h => Nat.le_trans (Nat.le_of_lt h) (by decide)
    refine ⟨_, rfl, p, m, 11, rfl, F0, by omega, by decide, by decide, fun H1 g1 b1 F1 g10 g11 => ?_⟩
    refine ⟨_, rfl, p, m + 1, 24, rfl, F1, by omega, by decide, by decide, fun H2 g2 b2 F2 g20 g21 => ⟨_, _, rfl, rfl, ?_⟩⟩
    obtain ⟨many, em⟩ : ∃ many : Nat, 1 + g2 = (many : Int) := ⟨(1 + g2).toNat, by omega⟩
    have k1 : 1 ≤ many ∧ many ≤ 24 := by omega
    dsimp only [gName]
    rw [em]
    have B2 := b1.trans b2
    have fin : ∀ (H' : Hp) x t, But p H H' → RepTh K H' x t → ¬ t.good → (∃ em, EmpQ K H' x em) → 2 ≤ sizeLine ∧ ∀ l, H' l = none → Q (.ref l) (upd H' l (.tup [x, .non])) := fun H' x t b r ng ⟨em, he⟩ =>
      ⟨by decide, fun l nl => q _ _ t (b.trans (But.of (same_new nl))) ⟨l, _, _, rfl, sqT_of upd_same, r.keep (Keep.of (same_new nl)), ⟨em, he.keep (Keep.of (same_new nl))⟩, .inl ⟨ng, rfl⟩⟩⟩
    have ngo : ¬ Th.other.good := fun g => by cases g.1
    refine ⟨fun σ' H' => H' = H2 ∧ σ' = [some (.ref p), some (.bl first), some (.int g1), some (.int many), none, none], ?_, ?_⟩
    · refine ⟨_, rfl, rfl, _, rfl, ite2 (fun _ => ?_) (fun _ => ⟨rfl, rfl⟩)⟩
      refine ⟨_, rfl, first, rfl, ?_⟩
      cases first with
      | false => exact iteF ⟨rfl, rfl⟩
      | true => exact iteT ⟨_, rfl, p, m + 2, rfl, F2, by omega, fun H' v t b r => q H' v t (B2.trans b) r⟩
    rintro σ' H' ⟨rfl, rfl⟩
    refine ⟨_, rfl, _, _, rfl, rfl, _, rfl, ite2 (fun _ => ?_) (fun _ => ?_)⟩
    · refine ⟨_, rfl, _, rfl, _, rfl, _, rfl, _, _, rfl, rfl, .inl ⟨by decide, by decide⟩, p, m + 2, _, rfl, F2, by omega, by omega, by omega, fun H3 g3 b3 F3 g30 g31 => ?_⟩
      exact ⟨p, m + 3, many, g3, rfl, F3, by omega, k1.1, k1.2, g30, fun H4 v t b4 F4 r => q H4 v t (B2.trans (b3.trans b4)) r⟩
    refine ⟨_, rfl, _, _, rfl, rfl, _, rfl, ite2 (fun _ => ?_) (fun _ => ?_)⟩
    · refine ⟨_, rfl, _, rfl, p, m + 2, 9, rfl, F2, by omega, by decide, by decide, fun H3 g3 b3 F3 g30 g31 => ⟨_, _, rfl, rfl, ?_⟩⟩
      obtain ⟨mm, e⟩ : ∃ mm : Nat, 36 + g3 = (mm : Int) := ⟨(36 + g3).toNat, by omega⟩
      exact ⟨p, m + 3, mm, congrArg (fun z => [V.ref p, .int z]) e, F3, by omega, by omega, by omega, fun H4 v t b4 F4 r => q H4 v t (B2.trans (b3.trans b4)) r⟩
    refine ⟨_, rfl, rfl, _, rfl, ite2 (fun _ => ?_) (fun _ => ?_)⟩
    · refine ⟨_, rfl, _, rfl, _, rfl, p, m + 2, many, (many : Int), rfl, F2, by omega, k1.1, k1.2, by omega, fun H3 v3 t3 b3 F3 r3 => ?_⟩
      obtain ⟨a3, u3, d3, rfl, h3, T3⟩ := r3
      refine ⟨a3, _, _, _, rfl, rfl, h3, atI_nat (j := 0) rfl, ?_⟩
      obtain ⟨m2, e2⟩ : ∃ m2 : Nat, 1 + (many : Int) / 2 = (m2 : Int) := ⟨(1 + (many : Int) / 2).toNat, by omega⟩
      refine ⟨_, rfl, _, rfl, _, _, rfl, rfl, ⟨by decide, by decide⟩, _, _, rfl, rfl, _, rfl, p, m + 42, m2, (many : Int), congrArg (fun z => [V.ref p, .int z, .int (many : Nat)]) e2, F3, by omega, by omega, by omega, by omega, fun H4 v4 t4 b4 F4 r4 => ?_⟩
      obtain ⟨a4, u4, d4, rfl, h4, T4⟩ := r4
      refine ⟨a4, _, _, _, rfl, rfl, h4, atI_nat (j := 0) rfl, ?_⟩
      refine ⟨_, _, rfl, ?_⟩
      have T3 := T3.keep (F3.keeps b4 F4)
      have R3 := T3.1
      have R4 := T4.1
      have B4 : But p H H4 := B2.trans (b3.trans b4)
      refine ⟨_, rfl, _, rfl, _, rfl, ll 2 (by decide), fun x1 n1 => ?_⟩
      have U1 := same_new (o := .lst [u3, u4]) n1
      have f1 : upd H4 x1 (.lst [u3, u4]) x1 = some (.lst [u3, u4]) := upd_same
      have G1 := F4.new (o := .lst [u3, u4]) n1
      generalize upd H4 x1 (.lst [u3, u4]) = K1 at U1 f1 G1 ⊢
      refine ⟨_, rfl, _, rfl, ll 3 (by decide), fun x2 n2 => ?_⟩
      have U2 := same_new (o := .tup [u3, u4, .non]) n2
      have f2 : upd K1 x2 (.tup [u3, u4, .non]) x2 = some (.tup [u3, u4, .non]) := upd_same
      have G2 := G1.new (o := .tup [u3, u4, .non]) n2
      generalize upd K1 x2 (.tup [u3, u4, .non]) = K2 at U2 f2 G2 ⊢
      refine ⟨_, rfl, ll 1 (by decide), fun x3 n3 => ?_⟩
      have U3 := same_new (o := .tup [u3]) n3
      have f3 : upd K2 x3 (.tup [u3]) x3 = some (.tup [u3]) := upd_same
      have G3 := G2.new (o := .tup [u3]) n3
      generalize upd K2 x3 (.tup [u3]) = K3 at U3 f3 G3 ⊢
      refine ⟨_, rfl, ll 1 (by decide), fun x4 n4 => ?_⟩
      have U4 := same_new (o := .lst [u3]) n4
      have f4 : upd K3 x4 (.lst [u3]) x4 = some (.lst [u3]) := upd_same
      have G4 := G3.new (o := .lst [u3]) n4
      generalize upd K3 x4 (.lst [u3]) = K4 at U4 f4 G4 ⊢
      refine ⟨ll 0 (by decide), fun x5 n5 => ?_⟩
      have U5 := same_new (o := .tup []) n5
      have f5 : upd K4 x5 (.tup []) x5 = some (.tup []) := upd_same
      have G5 := G4.new (o := .tup []) n5
      generalize upd K4 x5 (.tup []) = K5 at U5 f5 G5 ⊢
      refine ⟨_, rfl, _, rfl, _, rfl, ll 2 (by decide), fun x6 n6 => ?_⟩
      have U6 := same_new (o := .lst [u4, u4]) n6
      have f6 : upd K5 x6 (.lst [u4, u4]) x6 = some (.lst [u4, u4]) := upd_same
      have G6 := G5.new (o := .lst [u4, u4]) n6
      generalize upd K5 x6 (.lst [u4, u4]) = K6 at U6 f6 G6 ⊢
      refine ⟨ll 2 (by decide), fun x7 n7 => ?_⟩
      have U7 := same_new (o := .tup [u3, .ref x6]) n7
      have f7 : upd K6 x7 (.tup [u3, .ref x6]) x7 = some (.tup [u3, .ref x6]) := upd_same
      have G7 := G6.new (o := .tup [u3, .ref x6]) n7
      generalize upd K6 x7 (.tup [u3, .ref x6]) = K7 at U7 f7 G7 ⊢
      refine ⟨ll 6 (by decide), fun x8 n8 => ?_⟩
      have ne8 := G7.ne n8
      refine ⟨p, _, x8, [.ref x1, .ref x2, .ref x3, .ref x4, .ref x5, .ref x7], rfl, G7.new n8, by omega, sqL_of upd_same, ne8, by show 0 < 6; decide, by show 6 < 100000; decide, fun H9 x g b9 F9 hx => ?_⟩
      have U8 := same_new (o := HO.lst [V.ref x1, .ref x2, .ref x3, .ref x4, .ref x5, .ref x7]) n8
      have kp : Keep K7 H9 := (Keep.of U8).trans ((G7.new n8).keeps b9 F9)
      have U17 := U1.trans (U2.trans (U3.trans (U4.trans (U5.trans (U6.trans U7)))))
      have B9 : But p H H9 := B4.trans ((But.of (U17.trans U8)).trans b9)
      have f6 := U7 _ _ f6
      have f5 := U7 _ _ (U6 _ _ f5)
      have f4 := U7 _ _ (U6 _ _ (U5 _ _ f4))
      have f3 := U7 _ _ (U6 _ _ (U5 _ _ (U4 _ _ f3)))
      have f2 := U7 _ _ (U6 _ _ (U5 _ _ (U4 _ _ (U3 _ _ f2))))
      have f1 := U7 _ _ (U6 _ _ (U5 _ _ (U4 _ _ (U3 _ _ (U2 _ _ f1)))))
      have R3 := R3.keep (Keep.of U17)
      have X : ∃ t, RepTh K H9 x t ∧ ¬ t.good ∧ ∃ em, EmpQ K H9 x em := by
        have k : ∀ v t, RepTh K K7 v t → ¬ t.good → (∃ em, EmpQ K K7 v em) → x = v → ∃ t, RepTh K H9 x t ∧ ¬ t.good ∧ ∃ em, EmpQ K H9 x em := fun v t h1 h2 ⟨em, h3⟩ e => by
          subst e
          exact ⟨t, h1.keep kp, h2, em, h3.keep kp⟩
        have lst : ∀ {a ys}, K7 a = some (.lst ys) → RepTh K K7 (.ref a) .other := fun h => .other (ty_l (sqL_of h)) (by decide) (fun z => by cases z) (fun z => absurd z (by decide))
        have tup : ∀ {a ys}, K7 a = some (.tup ys) → ys.length ≠ 2 → RepTh K K7 (.ref a) .other := fun h l => .other (ty_t (sqT_of h)) (by decide) (fun z => by cases z) (fun _ => ⟨_, _, rfl, sqT_of h, l⟩)
        match g, hx with
        | 0, hx => cases hx; exact k _ _ (lst f1) ngo ⟨_, .oth (.lst (sqL_of f1))⟩ rfl
        | 1, hx => cases hx; exact k _ _ (tup f2 (by show 3 ≠ 2; decide)) ngo ⟨_, .tup (sqT_of f2)⟩ rfl
        | 2, hx => cases hx; exact k _ _ (tup f3 (by show 1 ≠ 2; decide)) ngo ⟨_, .tup (sqT_of f3)⟩ rfl
        | 3, hx => cases hx; exact k _ _ (lst f4) ngo ⟨_, .oth (.lst (sqL_of f4))⟩ rfl
        | 4, hx => cases hx; exact k _ _ (tup f5 (by show 0 ≠ 2; decide)) ngo ⟨_, .tup (sqT_of f5)⟩ rfl
        | 5, hx => cases hx; exact k _ (.pair t3 .other) (.pair (sqT_of f7) R3 (lst f6)) (fun g => by have := (good_pair.mp g).2.1.1; cases this) ⟨_, .tup (sqT_of f7)⟩ rfl
        | n + 6, hx => cases hx
      obtain ⟨t, r, ng, he⟩ := X
      exact fin H9 x t B9 r ng he
    refine ⟨_, rfl, rfl, _, rfl, ite2 (fun _ => ?_) (fun _ => ?_)⟩
    · refine ⟨_, rfl, ll 0 (by decide), fun x1 n1 => ?_⟩
      have U1 := same_new (o := .lst []) n1
      have f1 : upd H' x1 (.lst []) x1 = some (.lst []) := upd_same
      have G1 := F2.new (o := .lst []) n1
      generalize upd H' x1 (.lst []) = K1 at U1 f1 G1 ⊢
      refine ⟨ll 0 (by decide), fun x2 n2 => ?_⟩
      have U2 := same_new (o := .tup []) n2
      have f2 : upd K1 x2 (.tup []) x2 = some (.tup []) := upd_same
      have G2 := G1.new (o := .tup []) n2
      generalize upd K1 x2 (.tup []) = K2 at U2 f2 G2 ⊢
      refine fun x3 n3 => ?_
      have U3 := same_new (o := .dK []) n3
      have f3 : upd K2 x3 (.dK []) x3 = some (.dK []) := upd_same
      have G3 := G2.new (o := .dK []) n3
      generalize upd K2 x3 (.dK []) = K3 at U3 f3 G3 ⊢
      refine ⟨ll 2 (by decide), fun x4 n4 => ?_⟩
      have U4 := same_new (o := .lst [.non, .non]) n4
      have f4 : upd K3 x4 (.lst [.non, .non]) x4 = some (.lst [.non, .non]) := upd_same
      have G4 := G3.new (o := .lst [.non, .non]) n4
      generalize upd K3 x4 (.lst [.non, .non]) = K4 at U4 f4 G4 ⊢
      refine ⟨ll 1 (by decide), fun x5 n5 => ?_⟩
      have U5 := same_new (o := .lst [.non]) n5
      have f5 : upd K4 x5 (.lst [.non]) x5 = some (.lst [.non]) := upd_same
      have G5 := G4.new (o := .lst [.non]) n5
      generalize upd K4 x5 (.lst [.non]) = K5 at U5 f5 G5 ⊢
      refine ⟨ll 1 (by decide), fun x6 n6 => ?_⟩
      have U6 := same_new (o := .tup [.non]) n6
      have f6 : upd K5 x6 (.tup [.non]) x6 = some (.tup [.non]) := upd_same
      have G6 := G5.new (o := .tup [.non]) n6
      generalize upd K5 x6 (.tup [.non]) = K6 at U6 f6 G6 ⊢
      refine ⟨_, rfl, ll 14 (by decide), fun x8 n8 => ?_⟩
      have ne8 := G6.ne n8
      refine ⟨p, _, x8, [.bl true, .bl false, .int 0, .int 1, .int 2, .str "", .str "None", .ref x1, .ref x2, .ref x3, .ref x4, .ref x5, .ref x6, .int (-1)], rfl, G6.new n8, by omega, sqL_of upd_same, ne8, by show 0 < 14; decide, by show 14 < 100000; decide, fun H9 x g b9 F9 hx => ?_⟩
      have U8 := same_new (o := HO.lst [V.bl true, .bl false, .int 0, .int 1, .int 2, .str "", .str "None", .ref x1, .ref x2, .ref x3, .ref x4, .ref x5, .ref x6, .int (-1)]) n8
      have kp : Keep K6 H9 := (Keep.of U8).trans ((G6.new n8).keeps b9 F9)
      have U16 := U1.trans (U2.trans (U3.trans (U4.trans (U5.trans U6))))
      have B9 : But p H H9 := B2.trans ((But.of (U16.trans U8)).trans b9)
      have f5 := U6 _ _ f5
      have f4 := U6 _ _ (U5 _ _ f4)
      have f3 := U6 _ _ (U5 _ _ (U4 _ _ f3))
      have f2 := U6 _ _ (U5 _ _ (U4 _ _ (U3 _ _ f2)))
      have f1 := U6 _ _ (U5 _ _ (U4 _ _ (U3 _ _ (U2 _ _ f1))))
      have X : RepTh K H9 x .other ∧ ∃ em, EmpQ K H9 x em := by
        have k : ∀ v n, TyX K K6 v (.type n) → n ∈ kinds → v ≠ .non → (n = "tuple" → ∃ a xs, v = .ref a ∧ SqT K K6 a xs ∧ xs.length ≠ 2) → x = v → (∃ em, EmpQ K K6 v em) → RepTh K H9 x .other ∧ ∃ em, EmpQ K H9 x em := fun v n h1 h2 h3 h4 e ⟨em, h5⟩ => by
          subst e
          exact ⟨(RepTh.other h1 h2 h3 h4).keep kp, em, h5.keep kp⟩
        match g, hx with
        | 0, hx => cases hx; exact k _ "bool" (ty_bl _) (by decide) (fun z => by cases z) (fun z => absurd z (by decide)) rfl ⟨_, .oth (.bl _)⟩
        | 1, hx => cases hx; exact k _ "bool" (ty_bl _) (by decide) (fun z => by cases z) (fun z => absurd z (by decide)) rfl ⟨_, .oth (.bl _)⟩
        | 2, hx => cases hx; exact k _ "int" (ty_int _) (by decide) (fun z => by cases z) (fun z => absurd z (by decide)) rfl ⟨_, .oth (.int _)⟩
        | 3, hx => cases hx; exact k _ "int" (ty_int _) (by decide) (fun z => by cases z) (fun z => absurd z (by decide)) rfl ⟨_, .oth (.int _)⟩
        | 4, hx => cases hx; exact k _ "int" (ty_int _) (by decide) (fun z => by cases z) (fun z => absurd z (by decide)) rfl ⟨_, .oth (.int _)⟩
        | 5, hx => cases hx; exact k _ "str" (ty_str _) (by decide) (fun z => by cases z) (fun z => absurd z (by decide)) rfl ⟨_, .oth (.str _ (by decide +kernel))⟩
        | 6, hx => cases hx; exact k _ "str" (ty_str _) (by decide) (fun z => by cases z) (fun z => absurd z (by decide)) rfl ⟨_, .oth (.str _ (by decide +kernel))⟩
        | 7, hx => cases hx; exact k _ "list" (ty_l (sqL_of f1)) (by decide) (fun z => by cases z) (fun z => absurd z (by decide)) rfl ⟨_, .oth (.lst (sqL_of f1))⟩
        | 8, hx => cases hx; exact k _ "tuple" (ty_t (sqT_of f2)) (by decide) (fun z => by cases z) (fun _ => ⟨x2, [], rfl, sqT_of f2, by decide⟩) rfl ⟨_, .tup (sqT_of f2)⟩
        | 9, hx => cases hx; exact k _ "dict" (ty_dk f3) (by decide) (fun z => by cases z) (fun z => absurd z (by decide)) rfl ⟨_, .oth (.dic f3)⟩
        | 10, hx => cases hx; exact k _ "list" (ty_l (sqL_of f4)) (by decide) (fun z => by cases z) (fun z => absurd z (by decide)) rfl ⟨_, .oth (.lst (sqL_of f4))⟩
        | 11, hx => cases hx; exact k _ "list" (ty_l (sqL_of f5)) (by decide) (fun z => by cases z) (fun z => absurd z (by decide)) rfl ⟨_, .oth (.lst (sqL_of f5))⟩
        | 12, hx => cases hx; exact k _ "tuple" (ty_t (sqT_of f6)) (by decide) (fun z => by cases z) (fun _ => ⟨x6, [.non], rfl, sqT_of f6, by show 1 ≠ 2; decide⟩) rfl ⟨_, .tup (sqT_of f6)⟩
        | 13, hx => cases hx; exact k _ "int" (ty_int _) (by decide) (fun z => by cases z) (fun z => absurd z (by decide)) rfl ⟨_, .oth (.int _)⟩
        | n + 14, hx => cases hx
      exact fin H9 x .other B9 X.1 ngo X.2
    refine ⟨_, rfl, _, rfl, _, rfl, p, m + 2, many, (many : Int), rfl, F2, by omega, k1.1, k1.2, by omega, fun H3 v3 t3 b3 F3 r3 => ?_⟩
    refine ⟨_, rfl, _, rfl, p, m + 42, 12, rfl, F3, by omega, by decide, by decide, fun H4 g4 b4 F4 g40 g41 => ⟨_, _, rfl, rfl, ?_⟩⟩
    obtain ⟨mm, e⟩ : ∃ mm : Nat, 30 + g4 = (mm : Int) := ⟨(30 + g4).toNat, by omega⟩
    refine ⟨p, m + 43, mm, congrArg (fun z => [V.ref p, .int z]) e, F4, by omega, by omega, by omega, fun H5 v5 t5 b5 F5 r5 => ?_⟩
    refine ⟨_, _, _, _, rfl, (r3.keep (F3.keeps b4 F4)).keep (F4.keeps b5 F5), r5, fun v H6 s6 r6 => ?_⟩
    exact q H6 v _ (B2.trans (b3.trans (b4.trans (b5.trans (But.of s6))))) r6
end

section
variable {P : Program} {w : World} {K : PySem.W.Frag} {mg : Str → Option Value} {base : Heap} {cMatchError cBadShape cBadCount cBadBalance cStem cBuilder : Addr}
def spWidthIn (K : PySem.W.Frag) (n : Nat) : Sp := fun vs H Q _ => ∃ v t, ∃ m : Nat, vs = [v, .int m] ∧ RepTh K H v t ∧ m < n ∧ Q (.int (t.win m)) H
theorem ok_width_in (T : Top K mg cMatchError cBadShape cBadCount cBadBalance cStem cBuilder) : ∀ n, Cl P w K mg base n "width_in" ["thing", "most"] (spWidthIn K n)
  | 0 => by
    exact T.d_width_in.never fun vs H Q E h => by
      obtain ⟨_, _, _, _, _, z, _⟩ := h
      cases z
  | n + 1 => by
    have ih := ok_width_in T n
    refine T.d_width_in.ok sc_width_in (fun vs H Q E h => ?_) (fun f cdv A outer s H vs Q E hr h => ?_)
    · obtain ⟨v, t, m, rfl, _⟩ := h
      rfl
    · refine ⟨_, (pss_cons (ps_if (pt_cmpR op_isN (pv 0) pe_non (nomark _)) (pss_one (ps_ret pe_int)) pss_nil)
      (pss_cons (ps_if (PW.pt (pw_or (pt_cmpR op_eq (pv 1) pe_int (nomark _)) (pw_or (pt_not (pt_val (pe_callB call_isi (by rfl) T.n_isinstance (by decide +kernel) (pa_cons (pv 0) (pa_cons (pe_bltn (v := .ty "tuple") (by rfl) T.n_tuple (by decide +kernel) rfl) pa_nil))))) (pw_or1 (pt_cmpR op_ne (pe_callB call_len_seq (by rfl) T.n_len (by decide +kernel) (pa_cons (pv 0) pa_nil)) pe_int (nomark _)))))) (pss_one (ps_ret pe_int)) pss_nil)
      (pss_cons (ps_set (i := 2) sc_width_in.nd rfl (.inl rfl) (pcN ih hr (Nat.le_refl _) (pa_cons (pe_ix ix_tup (pv 0) pe_int (fun _ _ => rfl)) (pa_cons (pe_op op_sub (pv 1) pe_int) pa_nil))))
      (pss_cons (ps_set (i := 3) sc_width_in.nd rfl (.inl rfl) (pe_ifExp (pt_cmpR op_eq (pv 2) pe_int (nomark _)) pe_int (pcN ih hr (Nat.le_refl _) (pa_cons (pe_ix ix_tup (pv 0) pe_int (fun _ _ => rfl)) (pa_cons (pe_op op_sub (pv 1) pe_int) pa_nil)))))
      (pss_cons (ps_if (PW.pt (pw_or (pt_cmpR op_eq (pv 3) pe_int (nomark _)) (pw_or1 (pt_cmpR op_gt (pe_op op_add (pv 2) (pv 3)) (C8.pe_gc (by rfl) T.v_MOST_NODES) (nomark _))))) (pss_one (ps_ret pe_int)) pss_nil)
      (pss_one (ps_ret (pe_op op_add (pv 2) (pv 3))))))))), ?_⟩
      obtain ⟨v, t, m, rfl, r, hm, q⟩ := h
      cases r with
      | one =>
        refine ⟨_, rfl, rfl, _, rfl, iteT ?_⟩
        have e : Th.one.win m = 1 := by cases m <;> rfl
        rw [e] at q
        exact q
      | @other v n ty hn nn ht =>
        refine ⟨_, rfl, rfl, _, rfl, ?_⟩
        rw [decide_eq_false nn]
        refine iteF ?_
        have e : Th.other.win m = 0 := by cases m <;> rfl
        rw [e] at q
        refine ⟨_, rfl, rfl, _, rfl, ite2 (fun e => iteT q) (fun e => ?_)⟩
        have k1 : PySem.W.kitOne K (.type n) (.type "tuple") = some (n == "tuple") := by
          simp only [kinds, List.mem_cons, List.not_mem_nil, or_false] at hn
          rcases hn with rfl | rfl | rfl | rfl | rfl | rfl | rfl <;> exact kit_ty (by decide +kernel)
        refine ⟨_, rfl, _, _, _, _, _, rfl, .ty "tuple", ty, k1, _, rfl, ?_⟩
        by_cases hd : n = "tuple"
        · subst hd
          obtain ⟨a, xs, rfl, hS, hl⟩ := ht rfl
          refine iteF ?_
          refine ⟨_, rfl, a, xs, rfl, .inr hS, rfl, _, rfl, ?_⟩
          rw [decide_eq_false (show ¬ (V.int xs.length = V.int 2) from fun z => hl (by have := V.int.inj z; omega))]
          exact iteT q
        · have hb : (n == "tuple") = false := by simpa using hd
          rw [hb]
          exact iteT (iteT q)
      | @pair a v1 v2 t1 t2 hS r1 r2 =>
        refine ⟨_, rfl, rfl, _, rfl, iteF ?_⟩
        cases m with
        | zero => exact ⟨_, rfl, rfl, _, rfl, iteT (iteT q)⟩
        | succ m =>
          refine ⟨_, rfl, rfl, _, rfl, ?_⟩
          rw [decide_eq_false (show ¬ (V.int ((m + 1 : Nat) : Int) = V.int 0) from fun z => by cases z)]
          refine iteF ?_
          refine ⟨_, rfl, _, _, _, _, _, rfl, .ty "tuple", ty_t hS, kit_ty (r := true) (by decide +kernel), _, rfl, iteF ?_⟩
          refine ⟨_, rfl, a, _, rfl, .inr hS, rfl, _, rfl, iteF ?_⟩
          have em : ((m + 1 : Nat) : Int) - 1 = (m : Int) := by omega
          refine ⟨_, rfl, a, _, _, _, rfl, rfl, hS, atI_nat (j := 0) rfl, _, rfl, _, _, rfl, rfl, ?_⟩
          refine ⟨v1, t1, m, congrArg (fun z => [_, V.int z]) em, r1, by omega, ?_⟩
          refine ⟨_, rfl, rfl, _, rfl, ?_⟩
          have qq : (t1.pair t2).win (m + 1) = if t1.win m = 0 ∨ t2.win m = 0 ∨ 20000 < t1.win m + t2.win m then 0 else t1.win m + t2.win m := rfl
          rw [qq] at q
          refine ite2 (fun e => ?_) (fun e => ?_)
          · have e1 : t1.win m = 0 := by
              have := V.int.inj (of_decide_eq_true e)
              omega
            refine ⟨_, rfl, rfl, _, rfl, iteT (iteT ?_)⟩
            rw [if_pos (.inl e1)] at q
            exact q
          · have e1 : t1.win m ≠ 0 := fun z => e (decide_eq_true (by rw [z]; rfl))
            refine ⟨_, rfl, a, _, _, _, rfl, rfl, hS, atI_nat (j := 1) rfl, _, rfl, _, _, rfl, rfl, ?_⟩
            refine ⟨v2, t2, m, congrArg (fun z => [_, V.int z]) em, r2, by omega, ?_⟩
            refine ⟨_, rfl, rfl, _, rfl, ite2 (fun e => ?_) (fun e => ?_)⟩
            · have e2 : t2.win m = 0 := by
                have := V.int.inj (of_decide_eq_true e)
                omega
              rw [if_pos (.inr (.inl e2))] at q
              exact iteT q
            · have e2 : t2.win m ≠ 0 := fun z => e (decide_eq_true (by rw [z]; rfl))
              refine ⟨_, rfl, _, rfl, _, _, rfl, rfl, _, _, rfl, rfl, _, rfl, ?_⟩
              refine ite2 (fun e => ?_) (fun e => ?_)
              · have e3 : (20000 : Int) < t1.win m + t2.win m := of_decide_eq_true e
                rw [if_pos (.inr (.inr (by omega)))] at q
                exact q
              · have e3 : ¬ (20000 : Int) < t1.win m + t2.win m := fun z => e (decide_eq_true z)
                rw [if_neg (by omega)] at q
                exact ⟨_, rfl, _, rfl, _, _, rfl, rfl, q⟩
end

section
variable {P : Program} {w : World} {K : PySem.W.Frag} {mg : Str → Option Value} {base : Heap} {cMatchError cBadShape cBadCount cBadBalance cStem cBuilder : Addr}
def spIsShape (K : PySem.W.Frag) : Sp := fun vs H Q _ => ∃ v t, vs = [v] ∧ RepTh K H v t ∧ Q (.bl (decide t.good)) H
theorem ok_is_shape (T : Top K mg cMatchError cBadShape cBadCount cBadBalance cStem cBuilder) : Cl P w K mg base 42 "is_shape" ["thing"] (spIsShape K) := by
  have c_width_in := ok_width_in (P := P) (w := w) (base := base) T 41
  refine T.d_is_shape.ok sc_is_shape (fun vs H Q E h => ?_) (fun f cdv A outer s H vs Q E hr h => ?_)
  · obtain ⟨v, t, rfl, _⟩ := h
    rfl
  · refine ⟨_, (pss_one (ps_ret (pe_cmpR op_gt (pcN c_width_in hr (by decide) (pa_cons (pv 0) (pa_cons (C8.pe_gc (by rfl) T.v_MOST_HEIGHT) pa_nil))) pe_int (nomark _)))), ?_⟩
    obtain ⟨v, t, rfl, r, q⟩ := h
    refine ⟨_, rfl, v, t, 40, rfl, r, by decide, _, _, rfl, rfl, ?_⟩
    have e : decide ((0 : Int) < ((t.win 40 : Nat) : Int)) = decide t.good := by
      rw [t.win_eq 40]
      by_cases g : t.good
      · have g' : t.sh = true ∧ t.hgt ≤ 40 ∧ t.wid ≤ 20000 := g
        have p := t.wid_pos g.1
        rw [if_pos g', decide_eq_true g, decide_eq_true (by omega)]
      · have g' : ¬ (t.sh = true ∧ t.hgt ≤ 40 ∧ t.wid ≤ 20000) := g
        rw [if_neg g', decide_eq_false g]
        rfl
    show Q (.bl (decide ((0 : Int) < ((t.win 40 : Nat) : Int)))) H
    rw [e]
    exact q
end

section
variable {P : Program} {w : World} {K : PySem.W.Frag} {mg : Str → Option Value} {base : Heap} {cMatchError cBadShape cBadCount cBadBalance cStem cBuilder : Addr}
def spNeedShape (K : PySem.W.Frag) (C : Addr) : Sp := fun vs H Q E => ∃ v t, vs = [v] ∧ RepTh K H v t ∧ (t.good → Q (.int t.wid) H) ∧ (¬ t.good → E (.ref C) none H)
theorem ok_need_shape (T : Top K mg cMatchError cBadShape cBadCount cBadBalance cStem cBuilder) : Cl P w K mg base 42 "need_shape" ["shape"] (spNeedShape K cBadShape) := by
  have c_width_in := ok_width_in (P := P) (w := w) (base := base) T 41
  refine T.d_need_shape.ok sc_need_shape (fun vs H Q E h => ?_) (fun f cdv A outer s H vs Q E hr h => ?_)
  · obtain ⟨v, t, rfl, _⟩ := h
    rfl
  · refine ⟨_, (pss_cons (ps_set (i := 1) sc_need_shape.nd rfl (.inl rfl) (pcN c_width_in hr (by decide) (pa_cons (pv 0) (pa_cons (C8.pe_gc (by rfl) T.v_MOST_HEIGHT) pa_nil))))
      (pss_cons (ps_if (pt_cmpR op_eq (pv 1) pe_int (nomark _)) (pss_one (ps_raise rfl (takes_of rfl rfl rfl rfl) (pmk_own PySem.F.excBase_ValueError T.e_BadShape.x T.e_BadShape.g T.e_BadShape.k (raises_own T.e_BadShape.b T.e_BadShape.t) (by rfl)))) pss_nil)
      (pss_one (ps_ret (pv 1))))), ?_⟩
    obtain ⟨v, t, rfl, r, qy, qn⟩ := h
    refine ⟨_, rfl, v, t, 40, rfl, r, by decide, ?_⟩
    rw [t.win_eq 40]
    refine ⟨_, rfl, rfl, _, rfl, ?_⟩
    by_cases g : t.good
    · have g' : t.sh = true ∧ t.hgt ≤ 40 ∧ t.wid ≤ 20000 := g
      have p := t.wid_pos g.1
      rw [if_pos g']
      rw [decide_eq_false (show ¬ V.int (t.wid : Int) = V.int 0 from fun z => by have := V.int.inj z; omega)]
      exact iteF ⟨_, rfl, qy g⟩
    · have g' : ¬ (t.sh = true ∧ t.hgt ≤ 40 ∧ t.wid ≤ 20000) := g
      rw [if_neg g']
      exact iteT (qn g)
end

section
variable {P : Program} {w : World} {K : PySem.W.Frag} {mg : Str → Option Value} {base : Heap} {cMatchError cBadShape cBadCount cBadBalance cStem cBuilder : Addr}
theorem ok_width_of (T : Top K mg cMatchError cBadShape cBadCount cBadBalance cStem cBuilder) : Cl P w K mg base 43 "width_of" ["shape"] (spNeedShape K cBadShape) := by
  have c_need_shape := ok_need_shape (P := P) (w := w) (base := base) T
  refine T.d_width_of.ok sc_width_of (fun vs H Q E h => ?_) (fun f cdv A outer s H vs Q E hr h => ?_)
  · obtain ⟨v, t, rfl, _⟩ := h
    rfl
  · refine ⟨_, (pss_one (ps_ret (pcT c_need_shape hr (by decide) (takes_of rfl rfl rfl rfl) (pa_cons (pv 0) pa_nil)))), ?_⟩
    obtain ⟨v, t, rfl, r, qy, qn⟩ := h
    exact ⟨_, rfl, v, t, rfl, r, qy, qn⟩
end

section
variable {P : Program} {w : World} {K : PySem.W.Frag} {mg : Str → Option Value} {base : Heap} {cMatchError cBadShape cBadCount cBadBalance cStem cBuilder : Addr}
def spHeightIn (K : PySem.W.Frag) (n : Nat) : Sp := fun vs H Q _ => ∃ v t, vs = [v] ∧ RepTh K H v t ∧ t.sh = true ∧ t.hgt < n ∧ Q (.int t.hgt) H
theorem ok_height_in (T : Top K mg cMatchError cBadShape cBadCount cBadBalance cStem cBuilder) : ∀ n, Cl P w K mg base n "height_in" ["shape"] (spHeightIn K n)
  | 0 => by
    exact T.d_height_in.never fun vs H Q E h => by
      obtain ⟨_, _, _, _, _, z, _⟩ := h
      cases z
  | n + 1 => by
    have ih := ok_height_in T n
    refine T.d_height_in.ok sc_height_in (fun vs H Q E h => ?_) (fun f cdv A outer s H vs Q E hr h => ?_)
    · obtain ⟨v, t, rfl, _⟩ := h
      rfl
    · refine ⟨_, (pss_cons (ps_if (pt_cmpR op_isN (pv 0) pe_non (nomark _)) (pss_one (ps_ret pe_int)) pss_nil)
      (pss_one (ps_ret (pe_op op_add pe_int (pe_callB (call_max2 rfl) (by rfl) T.n_max (by decide +kernel) (pa_cons (pcN ih hr (Nat.le_refl _) (pa_cons (pe_ix ix_tup (pv 0) pe_int (fun _ _ => rfl)) pa_nil)) (pa_cons (pcN ih hr (Nat.le_refl _) (pa_cons (pe_ix ix_tup (pv 0) pe_int (fun _ _ => rfl)) pa_nil)) pa_nil))))))), ?_⟩
      obtain ⟨v, t, rfl, r, sh, hm, q⟩ := h
      cases r with
      | one => exact ⟨_, rfl, rfl, _, rfl, iteT q⟩
      | other => cases sh
      | @pair a v1 v2 t1 t2 hS r1 r2 =>
        have sh : (t1.sh && t2.sh) = true := sh
        rw [Bool.and_eq_true] at sh
        have hm : 1 + max t1.hgt t2.hgt < n + 1 := hm
        refine ⟨_, rfl, rfl, _, rfl, iteF ?_⟩
        refine ⟨_, rfl, a, _, _, _, rfl, rfl, hS, atI_nat (j := 0) rfl, v1, t1, rfl, r1, sh.1, by omega, ?_⟩
        refine ⟨_, rfl, a, _, _, _, rfl, rfl, hS, atI_nat (j := 1) rfl, v2, t2, rfl, r2, sh.2, by omega, ?_⟩
        refine ⟨_, _, rfl, _, _, rfl, rfl, ?_⟩
        show Q (.int (1 + if (t2.hgt : Int) > t1.hgt then (t2.hgt : Int) else t1.hgt)) H
        have e : (1 + if (t2.hgt : Int) > t1.hgt then (t2.hgt : Int) else t1.hgt) = (((t1.pair t2).hgt : Nat) : Int) := by
          show _ = ((1 + max t1.hgt t2.hgt : Nat) : Int)
          split <;> omega
        rw [e]
        exact q
end

section
variable {P : Program} {w : World} {K : PySem.W.Frag} {mg : Str → Option Value} {base : Heap} {cMatchError cBadShape cBadCount cBadBalance cStem cBuilder : Addr}
def spHeightOf (K : PySem.W.Frag) (C : Addr) : Sp := fun vs H Q E => ∃ v t, vs = [v] ∧ RepTh K H v t ∧ (t.good → Q (.int t.hgt) H) ∧ (¬ t.good → E (.ref C) none H)
theorem ok_height_of (T : Top K mg cMatchError cBadShape cBadCount cBadBalance cStem cBuilder) : Cl P w K mg base 43 "height_of" ["shape"] (spHeightOf K cBadShape) := by
  have c_need_shape := ok_need_shape (P := P) (w := w) (base := base) T
  have c_height_in := ok_height_in (P := P) (w := w) (base := base) T 41
  refine T.d_height_of.ok sc_height_of (fun vs H Q E h => ?_) (fun f cdv A outer s H vs Q E hr h => ?_)
  · obtain ⟨v, t, rfl, _⟩ := h
    rfl
  · refine ⟨_, (pss_cons (ps_expr (pcT c_need_shape hr (by decide) (takes_of rfl rfl rfl rfl) (pa_cons (pv 0) pa_nil)))
      (pss_one (ps_ret (pcN c_height_in hr (by decide) (pa_cons (pv 0) pa_nil))))), ?_⟩
    obtain ⟨v, t, rfl, r, qy, qn⟩ := h
    exact ⟨_, rfl, v, t, rfl, r, fun g => ⟨_, rfl, v, t, rfl, r, g.1, by have := g.2.1; omega, qy g⟩, qn⟩
end

section
variable {P : Program} {w : World} {K : PySem.W.Frag} {mg : Str → Option Value} {base : Heap} {cMatchError cBadShape cBadCount cBadBalance cStem cBuilder : Addr}
def spBalancedHeight (K : PySem.W.Frag) (n : Nat) : Sp := fun vs H Q _ => ∃ v t, vs = [v] ∧ RepTh K H v t ∧ t.sh = true ∧ t.hgt < n ∧ Q (.int t.bal) H
theorem ok_balanced_height (T : Top K mg cMatchError cBadShape cBadCount cBadBalance cStem cBuilder) : ∀ n, Cl P w K mg base n "balanced_height" ["shape"] (spBalancedHeight K n)
  | 0 => by
    exact T.d_balanced_height.never fun vs H Q E h => by
      obtain ⟨_, _, _, _, _, z, _⟩ := h
      cases z
  | n + 1 => by
    have ih := ok_balanced_height T n
    refine T.d_balanced_height.ok sc_balanced_height (fun vs H Q E h => ?_) (fun f cdv A outer s H vs Q E hr h => ?_)
    · obtain ⟨v, t, rfl, _⟩ := h
      rfl
    · refine ⟨_, (pss_cons (ps_if (pt_cmpR op_isN (pv 0) pe_non (nomark _)) (pss_one (ps_ret pe_int)) pss_nil)
      (pss_cons (ps_set (i := 1) sc_balanced_height.nd rfl (.inl rfl) (pcN ih hr (Nat.le_refl _) (pa_cons (pe_ix ix_tup (pv 0) pe_int (fun _ _ => rfl)) pa_nil)))
      (pss_cons (ps_set (i := 2) sc_balanced_height.nd rfl (.inl rfl) (pcN ih hr (Nat.le_refl _) (pa_cons (pe_ix ix_tup (pv 0) pe_int (fun _ _ => rfl)) pa_nil)))
      (pss_cons (ps_if (PW.pt (pw_or (pt_cmpR op_lt (pe_callB (call_min2 rfl) (by rfl) T.n_min (by decide +kernel) (pa_cons (pv 1) (pa_cons (pv 2) pa_nil))) pe_int (nomark _)) (pw_or1 (pt_cmpR op_gt (pe_callB call_abs (by rfl) T.n_abs (by decide +kernel) (pa_cons (pe_op op_sub (pv 1) (pv 2)) pa_nil)) pe_int (nomark _))))) (pss_one (ps_ret (pe_un un_neg pe_int))) pss_nil)
      (pss_one (ps_ret (pe_op op_add pe_int (pe_callB (call_max2 rfl) (by rfl) T.n_max (by decide +kernel) (pa_cons (pv 1) (pa_cons (pv 2) pa_nil)))))))))), ?_⟩
      obtain ⟨v, t, rfl, r, sh, hm, q⟩ := h
      cases r with
      | one => exact ⟨_, rfl, rfl, _, rfl, iteT q⟩
      | other => cases sh
      | @pair a v1 v2 t1 t2 hS r1 r2 =>
        have sh : (t1.sh && t2.sh) = true := sh
        rw [Bool.and_eq_true] at sh
        have hm : 1 + max t1.hgt t2.hgt < n + 1 := hm
        refine ⟨_, rfl, rfl, _, rfl, iteF ?_⟩
        refine ⟨_, rfl, a, _, _, _, rfl, rfl, hS, atI_nat (j := 0) rfl, v1, t1, rfl, r1, sh.1, by omega, ?_⟩
        refine ⟨_, rfl, a, _, _, _, rfl, rfl, hS, atI_nat (j := 1) rfl, v2, t2, rfl, r2, sh.2, by omega, ?_⟩
        have qq : (t1.pair t2).bal = if min t1.bal t2.bal < 0 ∨ 1 < farI t1.bal t2.bal then -1 else 1 + max t1.bal t2.bal := rfl
        rw [qq] at q
        have e1 : (if t2.bal < t1.bal then t2.bal else t1.bal) = min t1.bal t2.bal := by split <;> omega
        have e2 : (if t2.bal > t1.bal then t2.bal else t1.bal) = max t1.bal t2.bal := by split <;> omega
        refine ⟨_, rfl, _, rfl, _, _, rfl, _, _, rfl, rfl, _, rfl, ?_⟩
        show if decide ((if t2.bal < t1.bal then t2.bal else t1.bal) < 0) = true then _ else _
        rw [e1]
        refine ite2 (fun e => ?_) (fun e => ?_)
        · rw [if_pos (.inl (of_decide_eq_true e))] at q
          exact iteT ⟨_, rfl, q⟩
        · refine ⟨_, rfl, _, rfl, _, _, rfl, rfl, _, rfl, _, _, rfl, rfl, _, rfl, ?_⟩
          show if decide (1 < farI t1.bal t2.bal) = true then _ else _
          refine ite2 (fun e3 => ?_) (fun e3 => ?_)
          · rw [if_pos (.inr (of_decide_eq_true e3))] at q
            exact ⟨_, rfl, q⟩
          · rw [if_neg (fun h => h.elim (fun z => e (decide_eq_true z)) fun z => e3 (decide_eq_true z))] at q
            refine ⟨_, rfl, _, rfl, _, _, rfl, _, _, rfl, rfl, ?_⟩
            show Q (.int (1 + if t2.bal > t1.bal then t2.bal else t1.bal)) H
            rw [e2]
            exact q
end

section
variable {P : Program} {w : World} {K : PySem.W.Frag} {mg : Str → Option Value} {base : Heap} {cMatchError cBadShape cBadCount cBadBalance cStem cBuilder : Addr}
def spIsBalanced (K : PySem.W.Frag) (C : Addr) : Sp := fun vs H Q E => ∃ v t, vs = [v] ∧ RepTh K H v t ∧ (t.good → Q (.bl t.isBal) H) ∧ (¬ t.good → E (.ref C) none H)
theorem ok_is_balanced (T : Top K mg cMatchError cBadShape cBadCount cBadBalance cStem cBuilder) : Cl P w K mg base 43 "is_balanced" ["shape"] (spIsBalanced K cBadShape) := by
  have c_need_shape := ok_need_shape (P := P) (w := w) (base := base) T
  have c_balanced_height := ok_balanced_height (P := P) (w := w) (base := base) T 41
  refine T.d_is_balanced.ok sc_is_balanced (fun vs H Q E h => ?_) (fun f cdv A outer s H vs Q E hr h => ?_)
  · obtain ⟨v, t, rfl, _⟩ := h
    rfl
  · refine ⟨_, (pss_cons (ps_expr (pcT c_need_shape hr (by decide) (takes_of rfl rfl rfl rfl) (pa_cons (pv 0) pa_nil)))
      (pss_one (ps_ret (pe_cmpR op_ge (pcN c_balanced_height hr (by decide) (pa_cons (pv 0) pa_nil)) pe_int (nomark _))))), ?_⟩
    obtain ⟨v, t, rfl, r, qy, qn⟩ := h
    refine ⟨_, rfl, v, t, rfl, r, fun g => ?_, qn⟩
    refine ⟨_, rfl, v, t, rfl, r, g.1, by have := g.2.1; omega, ?_⟩
    rw [t.bal_eq]
    refine ⟨_, _, rfl, rfl, ?_⟩
    have e : decide ((0 : Int) ≤ if t.isBal = true then (t.hgt : Int) else -1) = t.isBal := by
      cases t.isBal
      · rfl
      · exact decide_eq_true (by rw [if_pos rfl]; omega)
    show Q (.bl (decide ((0 : Int) ≤ if t.isBal = true then (t.hgt : Int) else -1))) H
    rw [e]
    exact qy g
end

section
variable {P : Program} {w : World} {K : PySem.W.Frag} {mg : Str → Option Value} {base : Heap} {cMatchError cBadShape cBadCount cBadBalance cStem cBuilder : Addr}
def spNeedBal (K : PySem.W.Frag) (C D : Addr) : Sp := fun vs H Q E => ∃ v t, vs = [v] ∧ RepTh K H v t ∧ (t.good → t.isBal = true → Q (.int t.wid) H) ∧ (¬ t.good → E (.ref C) none H) ∧ (t.good → t.isBal = false → E (.ref D) none H)
theorem ok_need_balanced (T : Top K mg cMatchError cBadShape cBadCount cBadBalance cStem cBuilder) : Cl P w K mg base 43 "need_balanced" ["shape"] (spNeedBal K cBadShape cBadBalance) := by
  have c_need_shape := ok_need_shape (P := P) (w := w) (base := base) T
  have c_balanced_height := ok_balanced_height (P := P) (w := w) (base := base) T 41
  refine T.d_need_balanced.ok sc_need_balanced (fun vs H Q E h => ?_) (fun f cdv A outer s H vs Q E hr h => ?_)
  · obtain ⟨v, t, rfl, _⟩ := h
    rfl
  · refine ⟨_, (pss_cons (ps_set (i := 1) sc_need_balanced.nd rfl (.inl rfl) (pcT c_need_shape hr (by decide) (takes_of rfl rfl rfl rfl) (pa_cons (pv 0) pa_nil)))
      (pss_cons (ps_if (pt_cmpR op_lt (pcN c_balanced_height hr (by decide) (pa_cons (pv 0) pa_nil)) pe_int (nomark _)) (pss_one (ps_raise rfl (takes_of rfl rfl rfl rfl) (pmk_own PySem.F.excBase_ValueError T.e_BadBalance.x T.e_BadBalance.g T.e_BadBalance.k (raises_own T.e_BadBalance.b T.e_BadBalance.t) (by rfl)))) pss_nil)
      (pss_one (ps_ret (pv 1))))), ?_⟩
    obtain ⟨v, t, rfl, r, qy, qn, qb⟩ := h
    refine ⟨_, rfl, v, t, rfl, r, fun g => ?_, qn⟩
    refine ⟨_, rfl, v, t, rfl, r, g.1, by have := g.2.1; omega, ?_⟩
    rw [t.bal_eq]
    refine ⟨_, _, rfl, rfl, _, rfl, ?_⟩
    cases hb : t.isBal with
    | true =>
      refine ite2 (fun e => ?_) (fun e => ⟨_, rfl, qy g hb⟩)
      have e : (if true = true then (t.hgt : Int) else -1) < 0 := of_decide_eq_true e
      rw [if_pos rfl] at e
      omega
    | false =>
      refine iteT ?_
      exact qb g hb
end

section
variable {P : Program} {w : World} {K : PySem.W.Frag} {mg : Str → Option Value} {base : Heap} {cMatchError cBadShape cBadCount cBadBalance cStem cBuilder : Addr}
def spStemInit (C : Addr) : Sp := fun vs H Q _ => ∃ (p dx : Addr) (l r : V), vs = [.ref p, l, r] ∧ H p = some (.ins C dx []) ∧
  ((l = .non ∧ Q .non (upd H p (.ins C dx (stF .non r 1 0)))) ∨
   ∃ t1 t2, StAt C H l t1 ∧ StAt C H r t2 ∧ Q .non (upd H p (.ins C dx (stF l r ((t1.wid + t2.wid : Nat) : Int) ((1 + max t1.hgt t2.hgt : Nat) : Int)))))
theorem ok_Stem_init (T : Top K mg cMatchError cBadShape cBadCount cBadBalance cStem cBuilder) : Mc P w K mg base 1 cStem "__init__" ["self", "left", "right"] (spStemInit cStem) := by
  refine T.m_Stem_init.ok sc_Stem_init (fun vs H Q E h => ?_) (fun f cdv A outer s H vs Q E hr h => ?_)
  · obtain ⟨p, dx, l, r, rfl, _⟩ := h
    rfl
  · refine ⟨_, (pss_cons (ps_fld (pv 0) (pv 1) rfl)
      (pss_cons (ps_fld (pv 0) (pv 2) rfl)
      (pss_cons (ps_fld (pv 0) (pe_ifExp (pt_cmpR op_isN (pv 1) pe_non (nomark _)) pe_int (pe_op op_add (pe_fld (pv 1) rfl) (pe_fld (pv 2) rfl))) rfl)
      (pss_one (ps_fld (pv 0) (pe_ifExp (pt_cmpR op_isN (pv 1) pe_non (nomark _)) pe_int (pe_op op_add pe_int (pe_callB (call_max2 rfl) (by rfl) T.n_max (by decide +kernel) (pa_cons (pe_fld (pv 1) rfl) (pa_cons (pe_fld (pv 2) rfl) pa_nil))))) rfl))))), ?_⟩
    obtain ⟨p, dx, l, r, rfl, hp, h⟩ := h
    have nL := T.k_Stem.no "left" (by simp)
    have nR := T.k_Stem.no "right" (by simp)
    have nW := T.k_Stem.no "width" (by simp)
    have nH := T.k_Stem.no "height" (by simp)
    refine ⟨_, rfl, _, rfl, p, cStem, dx, [], rfl, hp, T.k_Stem.cl, nL, by show 0 < 1000; decide, ?_⟩
    rw [pf1]
    refine ⟨_, rfl, _, rfl, p, cStem, dx, _, rfl, upd_same, T.k_Stem.cl, nR, by show 1 < 1000; decide, ?_⟩
    rw [pf2, upd_upd]
    have hp2 : upd H p (.ins cStem dx [("left", l), ("right", r)]) p = some (.ins cStem dx [("left", l), ("right", r)]) := upd_same
    rcases h with ⟨rfl, q⟩ | ⟨t1, t2, r1, r2, q⟩
    · refine ⟨_, rfl, rfl, _, rfl, iteT ?_⟩
      refine ⟨_, rfl, p, cStem, dx, _, rfl, hp2, T.k_Stem.cl, nW, by show 2 < 1000; decide, ?_⟩
      rw [pf3, upd_upd]
      refine ⟨_, rfl, rfl, _, rfl, iteT ?_⟩
      refine ⟨_, rfl, p, cStem, dx, _, rfl, upd_same, T.k_Stem.cl, nH, by show 3 < 1000; decide, ?_⟩
      rw [pf4, upd_upd]
      exact q
    · obtain ⟨a1, d1, l1, s1, rfl, h1⟩ := r1.at_
      obtain ⟨a2, d2, l2, s2, rfl, h2⟩ := r2.at_
      have n1 := StAt.ne hp (by decide) h1
      have n2 := StAt.ne hp (by decide) h2
      have ew : ((t1.wid : Int) + (t2.wid : Int)) = ((t1.wid + t2.wid : Nat) : Int) := by omega
      have eh : (1 + (if (t2.hgt : Int) > (t1.hgt : Int) then (t2.hgt : Int) else (t1.hgt : Int))) = ((1 + max t1.hgt t2.hgt : Nat) : Int) := by split <;> omega
      refine ⟨_, rfl, rfl, _, rfl, iteF ?_⟩
      refine ⟨_, rfl, a1, cStem, _, _, _, rfl, (upd_ne n1).trans h1, T.k_Stem.cl, nW, stF_width, _, rfl, a2, cStem, _, _, _, rfl, (upd_ne n2).trans h2, T.k_Stem.cl, nW, stF_width, _, _, rfl, rfl, ?_⟩
      refine ⟨_, rfl, p, cStem, dx, _, rfl, hp2, T.k_Stem.cl, nW, by show 2 < 1000; decide, ?_⟩
      rw [pf3, upd_upd]
      refine ⟨_, rfl, rfl, _, rfl, iteF ?_⟩
      refine ⟨_, rfl, a1, cStem, _, _, _, rfl, (upd_ne n1).trans h1, T.k_Stem.cl, nH, stF_height, _, rfl, a2, cStem, _, _, _, rfl, (upd_ne n2).trans h2, T.k_Stem.cl, nH, stF_height, _, _, rfl, _, _, rfl, rfl, ?_⟩
      refine ⟨_, rfl, p, cStem, dx, _, rfl, upd_same, T.k_Stem.cl, nH, by show 3 < 1000; decide, ?_⟩
      rw [pf4, upd_upd]
      show Q .non (upd H p (.ins cStem dx [("left", .ref a1), ("right", .ref a2), ("width", .int ((t1.wid : Int) + (t2.wid : Int))), ("height", .int (1 + (if (t2.hgt : Int) > (t1.hgt : Int) then (t2.hgt : Int) else (t1.hgt : Int))))]))
      rw [eh, ew]
      exact q

theorem same_upd2 {H H1 : Hp} {x : Addr} {o : HO} (nx : H x = none) (s : Same H H1) : Same H (upd H1 x o) := fun b u e => by
  rw [upd_ne (ne_of_none e nx)]
  exact s b u e
/-- a pair made -/
theorem mk_stem {C : Addr} {H : Hp} {x dx : Addr} {l r : V} {t1 t2 : Th} {Q : VK} {E : XK} (nx : H x = none) (nd : H dx = none) (r1 : StAt C H l t1) (r2 : StAt C H r t2)
    (q : ∀ a H', Same H H' → StAt C H' (.ref a) (.pair t1 t2) → Q (.ref a) H') : spStemInit C [.ref x, l, r] (upd (upd H dx (.own x)) x (.ins C dx [])) (fun v H2 => v = .non ∧ Q (.ref x) H2) E := by
  have S : Same H (upd (upd H dx (.own x)) x (.ins C dx [])) := same_upd2 nx (same_new nd)
  refine ⟨x, dx, l, r, rfl, upd_same, .inr ⟨t1, t2, r1.same S, r2.same S, rfl, ?_⟩⟩
  have S' : Same H (upd (upd (upd H dx (.own x)) x (.ins C dx [])) x (.ins C dx (stF l r ((t1.wid + t2.wid : Nat) : Int) ((1 + max t1.hgt t2.hgt : Nat) : Int)))) := same_upd2 nx S
  exact q x _ S' (.pair upd_same (r1.same S') (r2.same S'))
theorem mk_stem1 {C : Addr} {H : Hp} {x dx : Addr} {Q : VK} {E : XK} (nx : H x = none) (nd : H dx = none)
    (q : ∀ a H', Same H H' → StAt C H' (.ref a) .one → Q (.ref a) H') : spStemInit C [.ref x, .non, .non] (upd (upd H dx (.own x)) x (.ins C dx [])) (fun v H2 => v = .non ∧ Q (.ref x) H2) E := by
  have S : Same H (upd (upd H dx (.own x)) x (.ins C dx [])) := same_upd2 nx (same_new nd)
  exact ⟨x, dx, _, _, rfl, upd_same, .inl ⟨rfl, rfl, q x _ (same_upd2 nx S) (.one upd_same)⟩⟩
end

section
variable {P : Program} {w : World} {K : PySem.W.Frag} {mg : Str → Option Value} {base : Heap} {cMatchError cBadShape cBadCount cBadBalance cStem cBuilder : Addr}
def spStemOf (K : PySem.W.Frag) (C : Addr) (n : Nat) : Sp := fun vs H Q _ => ∃ v t, vs = [v] ∧ RepTh K H v t ∧ t.sh = true ∧ t.hgt < n ∧ ∀ a H', Same H H' → StAt C H' (.ref a) t → Q (.ref a) H'
theorem ok_stem_of (T : Top K mg cMatchError cBadShape cBadCount cBadBalance cStem cBuilder) : ∀ n, Cl P w K mg base (n + 2) "stem_of" ["shape"] (spStemOf K cStem n)
  | 0 => by
    exact T.d_stem_of.never fun vs H Q E h => by
      obtain ⟨_, _, _, _, _, z, _⟩ := h
      cases z
  | n + 1 => by
    have ih := ok_stem_of T n
    have c_Stem_init := ok_Stem_init (P := P) (w := w) (base := base) T
    refine T.d_stem_of.ok sc_stem_of (fun vs H Q E h => ?_) (fun f cdv A outer s H vs Q E hr h => ?_)
    · obtain ⟨v, t, rfl, _⟩ := h
      rfl
    · refine ⟨_, (pss_cons (ps_if (pt_cmpR op_isN (pv 0) pe_non (nomark _)) (pss_one (ps_ret (pkN' c_Stem_init T.k_Stem hr (by omega) (pa_cons pe_non (pa_cons pe_non pa_nil))))) pss_nil)
      (pss_one (ps_ret (pkN' c_Stem_init T.k_Stem hr (by omega) (pa_cons (pcN ih hr (Nat.le_refl _) (pa_cons (pe_ix ix_tup (pv 0) pe_int (fun _ _ => rfl)) pa_nil)) (pa_cons (pcN ih hr (Nat.le_refl _) (pa_cons (pe_ix ix_tup (pv 0) pe_int (fun _ _ => rfl)) pa_nil)) pa_nil)))))), ?_⟩
      obtain ⟨v, t, rfl, r, sh, hm, q⟩ := h
      cases r with
      | one => exact ⟨_, rfl, rfl, _, rfl, iteT (fun x dx nx nd ne => mk_stem1 nx nd q)⟩
      | other => cases sh
      | @pair a v1 v2 t1 t2 hS r1 r2 =>
        have sh : (t1.sh && t2.sh) = true := sh
        rw [Bool.and_eq_true] at sh
        have hm : 1 + max t1.hgt t2.hgt < n + 1 := hm
        refine ⟨_, rfl, rfl, _, rfl, iteF ?_⟩
        refine ⟨_, rfl, a, _, _, _, rfl, rfl, hS, atI_nat (j := 0) rfl, v1, t1, rfl, r1, sh.1, by omega, fun a1 H1 s1 q1 => ?_⟩
        refine ⟨_, rfl, a, _, _, _, rfl, rfl, Same.seqT s1 hS, atI_nat (j := 1) rfl, v2, t2, rfl, r2.keep (Keep.of s1), sh.2, by omega, fun a2 H2 s2 q2 => ?_⟩
        exact fun x dx nx nd ne => mk_stem nx nd (q1.same s2) q2 fun a3 H3 s3 q3 => q a3 H3 (s1.trans (s2.trans s3)) q3
end

section
variable {P : Program} {w : World} {K : PySem.W.Frag} {mg : Str → Option Value} {base : Heap} {cMatchError cBadShape cBadCount cBadBalance cStem cBuilder : Addr}
def spBPair (C : Addr) : Sp := fun vs H Q _ => ∃ b l r t1 t2, vs = [b, l, r] ∧ StAt C H l t1 ∧ StAt C H r t2 ∧ ∀ a H', Same H H' → StAt C H' (.ref a) (.pair t1 t2) → Q (.ref a) H'
theorem ok_Builder_pair (T : Top K mg cMatchError cBadShape cBadCount cBadBalance cStem cBuilder) : Mc P w K mg base 3 cBuilder "pair" ["self", "left", "right"] (spBPair cStem) := by
  have c_Stem_init := ok_Stem_init (P := P) (w := w) (base := base) T
  refine T.m_Builder_pair.ok sc_Builder_pair (fun vs H Q E h => ?_) (fun f cdv A outer s H vs Q E hr h => ?_)
  · obtain ⟨b, l, r, t1, t2, rfl, _⟩ := h
    rfl
  · refine ⟨_, (pss_one (ps_ret (pkN' c_Stem_init T.k_Stem hr (by decide) (pa_cons (pv 1) (pa_cons (pv 2) pa_nil))))), ?_⟩
    obtain ⟨b, l, r, t1, t2, rfl, r1, r2, q⟩ := h
    exact ⟨_, rfl, _, rfl, fun x dx nx nd ne => mk_stem nx nd r1 r2 q⟩
end

section
variable {P : Program} {w : World} {K : PySem.W.Frag} {mg : Str → Option Value} {base : Heap} {cMatchError cBadShape cBadCount cBadBalance cStem cBuilder : Addr}
def spBSides (K : PySem.W.Frag) (C : Addr) : Sp := fun vs H Q _ => ∃ b v t1 t2, vs = [b, v] ∧ StAt C H v (.pair t1 t2) ∧ ∀ a H' v1 v2, Same H H' → SqT K H' a [v1, v2] → StAt C H' v1 t1 → StAt C H' v2 t2 → Q (.ref a) H'
theorem ok_Builder_sides (T : Top K mg cMatchError cBadShape cBadCount cBadBalance cStem cBuilder) : Mc P w K mg base 1 cBuilder "sides" ["self", "tree"] (spBSides K cStem) := by
  refine T.m_Builder_sides.ok sc_Builder_sides (fun vs H Q E h => ?_) (fun f cdv A outer s H vs Q E hr h => ?_)
  · obtain ⟨b, v, t1, t2, rfl, _⟩ := h
    rfl
  · refine ⟨_, (pss_one (ps_ret (pe_tup (pa_cons (pe_fld (pv 1) rfl) (pa_cons (pe_fld (pv 1) rfl) pa_nil))))), ?_⟩
    obtain ⟨b, v, t1, t2, rfl, r, q⟩ := h
    have nL := T.k_Stem.no "left" (by simp)
    have nR := T.k_Stem.no "right" (by simp)
    cases r with
    | @pair a dx v1 v2 _ _ h r1 r2 =>
      refine ⟨_, rfl, a, cStem, _, _, _, rfl, h, T.k_Stem.cl, nL, stF_left, _, rfl, a, cStem, _, _, _, rfl, h, T.k_Stem.cl, nR, stF_right, by show 2 ≤ sizeLine; decide, fun l nl => ?_⟩
      exact q l _ _ _ (same_new nl) (sqT_of upd_same) (r1.same (same_new nl)) (r2.same (same_new nl))
end

section
variable {P : Program} {w : World} {K : PySem.W.Frag} {mg : Str → Option Value} {base : Heap} {cMatchError cBadShape cBadCount cBadBalance cStem cBuilder : Addr}
def spEvenPair (K : PySem.W.Frag) (C B : Addr) : Sp := fun vs H Q _ => ∃ b dx l r t1 t2, vs = [.ref b, l, r] ∧ H b = some (.ins B dx []) ∧ StAt C H l t1 ∧ StAt C H r t2 ∧ t1.isBal = true ∧ t2.isBal = true ∧
  t1.hgt ≤ t2.hgt + 2 ∧ t2.hgt ≤ t1.hgt + 2 ∧ ∀ a H', Same H H' → StAt C H' (.ref a) (evenP t1 t2) → Q (.ref a) H'
theorem ok_even_pair (T : Top K mg cMatchError cBadShape cBadCount cBadBalance cStem cBuilder) : Cl P w K mg base 4 "even_pair" ["builder", "left", "right"] (spEvenPair K cStem cBuilder) := by
  have c_Builder_pair := ok_Builder_pair (P := P) (w := w) (base := base) T
  have c_Builder_sides := ok_Builder_sides (P := P) (w := w) (base := base) T
  have nH := T.k_Stem.no "height" (by simp)
  refine T.d_even_pair.ok sc_even_pair (fun vs H Q E h => ?_) (fun f cdv A outer s H vs Q E hr h => ?_)
  · obtain ⟨b, dx, l, r, t1, t2, rfl, _⟩ := h
    rfl
  · refine ⟨_, (pss_cons (ps_if (pt_cmpR op_gt (pe_fld (pv 2) rfl) (pe_op op_add (pe_fld (pv 1) rfl) pe_int) (nomark _)) (pss_cons (ps_asg (pmN c_Builder_sides T.k_Builder.cl hr (by decide) (pv 0) (pa_cons (pv 2) pa_nil)) (pg_tup rfl (pgs_cons (pg_name (i := 3) sc_even_pair.nd rfl (.inl rfl)) (pgs_cons (pg_name (i := 4) sc_even_pair.nd rfl (.inl rfl)) pgs_nil))))
      (pss_cons (ps_if (pt_cmpR op_le (pe_fld (pv 3) rfl) (pe_fld (pv 4) rfl) (nomark _)) (pss_one (ps_ret (pmN c_Builder_pair T.k_Builder.cl hr (by decide) (pv 0) (pa_cons (pmN c_Builder_pair T.k_Builder.cl hr (by decide) (pv 0) (pa_cons (pv 1) (pa_cons (pv 3) pa_nil))) (pa_cons (pv 4) pa_nil))))) pss_nil)
      (pss_cons (ps_asg (pmN c_Builder_sides T.k_Builder.cl hr (by decide) (pv 0) (pa_cons (pv 3) pa_nil)) (pg_tup rfl (pgs_cons (pg_name (i := 5) sc_even_pair.nd rfl (.inl rfl)) (pgs_cons (pg_name (i := 6) sc_even_pair.nd rfl (.inl rfl)) pgs_nil))))
      (pss_one (ps_ret (pmN c_Builder_pair T.k_Builder.cl hr (by decide) (pv 0) (pa_cons (pmN c_Builder_pair T.k_Builder.cl hr (by decide) (pv 0) (pa_cons (pv 1) (pa_cons (pv 5) pa_nil))) (pa_cons (pmN c_Builder_pair T.k_Builder.cl hr (by decide) (pv 0) (pa_cons (pv 6) (pa_cons (pv 4) pa_nil))) pa_nil)))))))) pss_nil)
      (pss_cons (ps_if (pt_cmpR op_gt (pe_fld (pv 1) rfl) (pe_op op_add (pe_fld (pv 2) rfl) pe_int) (nomark _)) (pss_cons (ps_asg (pmN c_Builder_sides T.k_Builder.cl hr (by decide) (pv 0) (pa_cons (pv 1) pa_nil)) (pg_tup rfl (pgs_cons (pg_name (i := 4) sc_even_pair.nd rfl (.inl rfl)) (pgs_cons (pg_name (i := 3) sc_even_pair.nd rfl (.inl rfl)) pgs_nil))))
      (pss_cons (ps_if (pt_cmpR op_le (pe_fld (pv 3) rfl) (pe_fld (pv 4) rfl) (nomark _)) (pss_one (ps_ret (pmN c_Builder_pair T.k_Builder.cl hr (by decide) (pv 0) (pa_cons (pv 4) (pa_cons (pmN c_Builder_pair T.k_Builder.cl hr (by decide) (pv 0) (pa_cons (pv 3) (pa_cons (pv 2) pa_nil))) pa_nil))))) pss_nil)
      (pss_cons (ps_asg (pmN c_Builder_sides T.k_Builder.cl hr (by decide) (pv 0) (pa_cons (pv 3) pa_nil)) (pg_tup rfl (pgs_cons (pg_name (i := 5) sc_even_pair.nd rfl (.inl rfl)) (pgs_cons (pg_name (i := 6) sc_even_pair.nd rfl (.inl rfl)) pgs_nil))))
      (pss_one (ps_ret (pmN c_Builder_pair T.k_Builder.cl hr (by decide) (pv 0) (pa_cons (pmN c_Builder_pair T.k_Builder.cl hr (by decide) (pv 0) (pa_cons (pv 4) (pa_cons (pv 5) pa_nil))) (pa_cons (pmN c_Builder_pair T.k_Builder.cl hr (by decide) (pv 0) (pa_cons (pv 6) (pa_cons (pv 2) pa_nil))) pa_nil)))))))) pss_nil)
      (pss_one (ps_ret (pmN c_Builder_pair T.k_Builder.cl hr (by decide) (pv 0) (pa_cons (pv 1) (pa_cons (pv 2) pa_nil))))))), ?_⟩
    obtain ⟨b, dx, l, r, t1, t2, rfl, hb, r1, r2, b1, b2, d1, d2, q⟩ := h
    obtain ⟨a1, x1, l1, s1, rfl, h1⟩ := r1.at_
    obtain ⟨a2, x2, l2, s2, rfl, h2⟩ := r2.at_
    refine ⟨_, rfl, a2, cStem, _, _, _, rfl, h2, T.k_Stem.cl, nH, stF_height, _, rfl, a1, cStem, _, _, _, rfl, h1, T.k_Stem.cl, nH, stF_height, _, _, rfl, rfl, _, _, rfl, rfl, _, rfl, ?_⟩
    by_cases c : t1.hgt + 1 < t2.hgt
    · obtain ⟨x, y, rfl⟩ := bal_tall b2 (by omega)
      have e0 : evenP t1 (.pair x y) = evR t1 (.pair x y) := if_pos c
      rw [e0] at q
      obtain ⟨bx, by_, e1, e2⟩ := bal_pair.mp b2
      rw [hgt_pair] at c
      rw [decide_eq_true (show ((t1.hgt : Int) + 1 < ((x.pair y).hgt : Int)) by rw [hgt_pair]; omega)]
      refine iteT ?_
      refine ⟨_, rfl, b, dx, _, rfl, hb, rfl, _, rfl, _, _, x, y, rfl, r2, fun a H1 u1 u2 s1 hT q1 q2 => ?_⟩
      refine ⟨a, _, rfl, hT, rfl, _, _, rfl, _, _, rfl, rfl, ?_⟩
      obtain ⟨a3, x3, l3, s3, rfl, h3⟩ := q1.at_
      obtain ⟨a4, x4, l4, s4, rfl, h4⟩ := q2.at_
      refine ⟨_, rfl, a3, cStem, _, _, _, rfl, h3, T.k_Stem.cl, nH, stF_height, _, rfl, a4, cStem, _, _, _, rfl, h4, T.k_Stem.cl, nH, stF_height, _, _, rfl, rfl, _, rfl, ?_⟩
      by_cases c2 : x.hgt ≤ y.hgt
      · have e3 : evR t1 (.pair x y) = .pair (.pair t1 x) y := if_pos c2
        rw [e3] at q
        rw [decide_eq_true (show ((x.hgt : Int) ≤ (y.hgt : Int)) by omega)]
        refine iteT ?_
        refine ⟨_, rfl, b, dx, _, rfl, s1 _ _ hb, rfl, _, rfl, b, dx, _, rfl, s1 _ _ hb, rfl, _, rfl, _, rfl, _, _, _, _, _, rfl, r1.same s1, q1, fun a5 H5 s5 q5 => ?_⟩
        refine ⟨_, rfl, _, _, _, _, _, rfl, q5, q2.same s5, fun a6 H6 s6 q6 => ?_⟩
        exact q a6 H6 (s1.trans (s5.trans s6)) q6
      · obtain ⟨m, n, rfl⟩ := bal_tall bx (by omega)
        have e3 : evR t1 (.pair (.pair m n) y) = .pair (.pair t1 m) (.pair n y) := if_neg c2
        rw [e3] at q
        rw [decide_eq_false (show ¬ (((m.pair n).hgt : Int) ≤ (y.hgt : Int)) by omega)]
        refine iteF ?_
        refine ⟨_, rfl, b, dx, _, rfl, s1 _ _ hb, rfl, _, rfl, _, _, m, n, rfl, q1, fun a5 H5 u3 u4 s5 hT5 q3 q4 => ?_⟩
        refine ⟨a5, _, rfl, hT5, rfl, _, _, rfl, _, _, rfl, rfl, ?_⟩
        have s15 := s1.trans s5
        refine ⟨_, rfl, b, dx, _, rfl, s15 _ _ hb, rfl, _, rfl, b, dx, _, rfl, s15 _ _ hb, rfl, _, rfl, _, rfl, _, _, _, _, _, rfl, r1.same s15, q3, fun a6 H6 s6 q6 => ?_⟩
        have s56 := s5.trans s6
        have s16 := s1.trans s56
        refine ⟨_, rfl, b, dx, _, rfl, s16 _ _ hb, rfl, _, rfl, _, rfl, _, _, _, _, _, rfl, q4.same s6, q2.same s56, fun a7 H7 s7 q7 => ?_⟩
        exact ⟨_, _, _, _, _, rfl, q6.same s7, q7, fun a8 H8 s8 q8 => q a8 H8 (s16.trans (s7.trans s8)) q8⟩
    · rw [decide_eq_false (show ¬ ((t1.hgt : Int) + 1 < (t2.hgt : Int)) by omega)]
      refine iteF ?_
      refine ⟨_, rfl, a1, cStem, _, _, _, rfl, h1, T.k_Stem.cl, nH, stF_height, _, rfl, a2, cStem, _, _, _, rfl, h2, T.k_Stem.cl, nH, stF_height, _, _, rfl, rfl, _, _, rfl, rfl, _, rfl, ?_⟩
      by_cases c1 : t2.hgt + 1 < t1.hgt
      · obtain ⟨x, y, rfl⟩ := bal_tall b1 (by omega)
        have e0 : evenP (.pair x y) t2 = evL t2 (.pair x y) := (if_neg c).trans (if_pos c1)
        rw [e0] at q
        obtain ⟨bx, by_, e1, e2⟩ := bal_pair.mp b1
        rw [hgt_pair] at c1
        rw [decide_eq_true (show ((t2.hgt : Int) + 1 < ((x.pair y).hgt : Int)) by rw [hgt_pair]; omega)]
        refine iteT ?_
        refine ⟨_, rfl, b, dx, _, rfl, hb, rfl, _, rfl, _, _, x, y, rfl, r1, fun a H1 u1 u2 s1 hT q1 q2 => ?_⟩
        refine ⟨a, _, rfl, hT, rfl, _, _, rfl, _, _, rfl, rfl, ?_⟩
        obtain ⟨a3, x3, l3, s3, rfl, h3⟩ := q1.at_
        obtain ⟨a4, x4, l4, s4, rfl, h4⟩ := q2.at_
        refine ⟨_, rfl, a4, cStem, _, _, _, rfl, h4, T.k_Stem.cl, nH, stF_height, _, rfl, a3, cStem, _, _, _, rfl, h3, T.k_Stem.cl, nH, stF_height, _, _, rfl, rfl, _, rfl, ?_⟩
        by_cases c2 : y.hgt ≤ x.hgt
        · have e3 : evL t2 (.pair x y) = .pair x (.pair y t2) := if_pos c2
          rw [e3] at q
          rw [decide_eq_true (show ((y.hgt : Int) ≤ (x.hgt : Int)) by omega)]
          refine iteT ?_
          refine ⟨_, rfl, b, dx, _, rfl, s1 _ _ hb, rfl, _, rfl, _, rfl, b, dx, _, rfl, s1 _ _ hb, rfl, _, rfl, _, rfl, _, _, _, _, _, rfl, q2, r2.same s1, fun a5 H5 s5 q5 => ?_⟩
          refine ⟨_, _, _, _, _, rfl, q1.same s5, q5, fun a6 H6 s6 q6 => ?_⟩
          exact q a6 H6 (s1.trans (s5.trans s6)) q6
        · obtain ⟨m, n, rfl⟩ := bal_tall by_ (by omega)
          have e3 : evL t2 (.pair x (.pair m n)) = .pair (.pair x m) (.pair n t2) := if_neg c2
          rw [e3] at q
          rw [decide_eq_false (show ¬ (((m.pair n).hgt : Int) ≤ (x.hgt : Int)) by omega)]
          refine iteF ?_
          refine ⟨_, rfl, b, dx, _, rfl, s1 _ _ hb, rfl, _, rfl, _, _, m, n, rfl, q2, fun a5 H5 u3 u4 s5 hT5 q3 q4 => ?_⟩
          refine ⟨a5, _, rfl, hT5, rfl, _, _, rfl, _, _, rfl, rfl, ?_⟩
          have s15 := s1.trans s5
          refine ⟨_, rfl, b, dx, _, rfl, s15 _ _ hb, rfl, _, rfl, b, dx, _, rfl, s15 _ _ hb, rfl, _, rfl, _, rfl, _, _, _, _, _, rfl, q1.same s5, q3, fun a6 H6 s6 q6 => ?_⟩
          have s56 := s5.trans s6
          have s16 := s1.trans s56
          refine ⟨_, rfl, b, dx, _, rfl, s16 _ _ hb, rfl, _, rfl, _, rfl, _, _, _, _, _, rfl, q4.same s6, r2.same s16, fun a7 H7 s7 q7 => ?_⟩
          exact ⟨_, _, _, _, _, rfl, q6.same s7, q7, fun a8 H8 s8 q8 => q a8 H8 (s16.trans (s7.trans s8)) q8⟩
      · have e0 : evenP t1 t2 = .pair t1 t2 := (if_neg c).trans (if_neg c1)
        rw [e0] at q
        rw [decide_eq_false (show ¬ ((t2.hgt : Int) + 1 < (t1.hgt : Int)) by omega)]
        refine iteF ?_
        exact ⟨_, rfl, b, dx, _, rfl, hb, rfl, _, rfl, _, rfl, _, _, _, _, _, rfl, r1, r2, q⟩
end

section
variable {P : Program} {w : World} {K : PySem.W.Frag} {mg : Str → Option Value} {base : Heap} {cMatchError cBadShape cBadCount cBadBalance cStem cBuilder : Addr}
def spRowJoined (K : PySem.W.Frag) (C B : Addr) (n : Nat) : Sp := fun vs H Q _ => ∃ b dx l r p1 p2, vs = [.ref b, l, r] ∧ H b = some (.ins B dx []) ∧ StO C H l p1 ∧ StO C H r p2 ∧ BalO p1 ∧ BalO p2 ∧ hgtO p1 + hgtO p2 < n ∧
  ∀ u H', Same H H' → StO C H' u (joinFO n p1 p2) → Q u H'
theorem ok_row_joined (T : Top K mg cMatchError cBadShape cBadCount cBadBalance cStem cBuilder) : ∀ n, Cl P w K mg base (n + 4) "row_joined" ["builder", "left", "right"] (spRowJoined K cStem cBuilder n)
  | 0 => by
    exact T.d_row_joined.never fun vs H Q E h => by
      obtain ⟨b, dx, l, r, p1, p2, _, _, _, _, _, _, h, _⟩ := h
      omega
  | n + 1 => by
    have ih := ok_row_joined T n
    have c_even_pair := ok_even_pair (P := P) (w := w) (base := base) T
    have c_Builder_pair := ok_Builder_pair (P := P) (w := w) (base := base) T
    have c_Builder_sides := ok_Builder_sides (P := P) (w := w) (base := base) T
    have nH := T.k_Stem.no "height" (by simp)
    refine T.d_row_joined.ok sc_row_joined (fun vs H Q E h => ?_) (fun f cdv A outer s H vs Q E hr h => ?_)
    · obtain ⟨b, dx, l, r, t1, t2, rfl, _⟩ := h
      rfl
    · refine ⟨_, (pss_cons (ps_if (pt_cmpR op_isN (pv 1) pe_non (nomark _)) (pss_one (ps_ret (pv 2))) pss_nil)
      (pss_cons (ps_if (pt_cmpR op_isN (pv 2) pe_non (nomark _)) (pss_one (ps_ret (pv 1))) pss_nil)
      (pss_cons (ps_if (pt_cmpR op_gt (pe_fld (pv 1) rfl) (pe_op op_add (pe_fld (pv 2) rfl) pe_int) (nomark _)) (pss_cons (ps_asg (pmN c_Builder_sides T.k_Builder.cl hr (by omega) (pv 0) (pa_cons (pv 1) pa_nil)) (pg_tup rfl (pgs_cons (pg_name (i := 3) sc_row_joined.nd rfl (.inl rfl)) (pgs_cons (pg_name (i := 4) sc_row_joined.nd rfl (.inl rfl)) pgs_nil))))
      (pss_one (ps_ret (pcN c_even_pair hr (by omega) (pa_cons (pv 0) (pa_cons (pv 3) (pa_cons (pcN ih hr (Nat.le_refl _) (pa_cons (pv 0) (pa_cons (pv 4) (pa_cons (pv 2) pa_nil)))) pa_nil))))))) pss_nil)
      (pss_cons (ps_if (pt_cmpR op_gt (pe_fld (pv 2) rfl) (pe_op op_add (pe_fld (pv 1) rfl) pe_int) (nomark _)) (pss_cons (ps_asg (pmN c_Builder_sides T.k_Builder.cl hr (by omega) (pv 0) (pa_cons (pv 2) pa_nil)) (pg_tup rfl (pgs_cons (pg_name (i := 3) sc_row_joined.nd rfl (.inl rfl)) (pgs_cons (pg_name (i := 4) sc_row_joined.nd rfl (.inl rfl)) pgs_nil))))
      (pss_one (ps_ret (pcN c_even_pair hr (by omega) (pa_cons (pv 0) (pa_cons (pcN ih hr (Nat.le_refl _) (pa_cons (pv 0) (pa_cons (pv 1) (pa_cons (pv 3) pa_nil)))) (pa_cons (pv 4) pa_nil))))))) pss_nil)
      (pss_one (ps_ret (pmN c_Builder_pair T.k_Builder.cl hr (by omega) (pv 0) (pa_cons (pv 1) (pa_cons (pv 2) pa_nil))))))))), ?_⟩
      obtain ⟨b, dx, l, r, p1, p2, rfl, hb, r1, r2, b1, b2, hn, q⟩ := h
      rcases r1 with ⟨rfl, rfl⟩ | ⟨t1, rfl, r1⟩
      · exact ⟨_, rfl, rfl, _, rfl, iteT ⟨_, rfl, q _ H (Same.refl _) r2⟩⟩
      · obtain ⟨a1, x1, l1, s1, rfl, h1⟩ := r1.at_
        refine ⟨_, rfl, rfl, _, rfl, iteF ?_⟩
        rcases r2 with ⟨rfl, rfl⟩ | ⟨t2, rfl, r2⟩
        · exact ⟨_, rfl, rfl, _, rfl, iteT ⟨_, rfl, q _ H (Same.refl _) (.inr ⟨_, rfl, r1⟩)⟩⟩
        · obtain ⟨a2, x2, l2, s2, rfl, h2⟩ := r2.at_
          have b1 := b1 _ rfl
          have b2 := b2 _ rfl
          have hn : t1.hgt + t2.hgt < n + 1 := hn
          refine ⟨_, rfl, rfl, _, rfl, iteF ?_⟩
          refine ⟨_, rfl, a1, cStem, _, _, _, rfl, h1, T.k_Stem.cl, nH, stF_height, _, rfl, a2, cStem, _, _, _, rfl, h2, T.k_Stem.cl, nH, stF_height, _, _, rfl, rfl, _, _, rfl, rfl, _, rfl, ?_⟩
          have qq : ∀ a H', Same H H' → StAt cStem H' (.ref a) (joinF (n + 1) t1 t2) → Q (.ref a) H' := fun a H' s r => q _ H' s (.inr ⟨_, rfl, r⟩)
          by_cases c : t2.hgt + 1 < t1.hgt
          · obtain ⟨x, y, rfl⟩ := bal_tall b1 (by omega)
            have e0 : joinF (n + 1) (.pair x y) t2 = evenP x (joinF n y t2) := if_pos c
            rw [e0] at qq
            obtain ⟨bx, by_, e1, e2⟩ := bal_pair.mp b1
            rw [hgt_pair] at c hn
            rw [decide_eq_true (show ((t2.hgt : Int) + 1 < ((x.pair y).hgt : Int)) by rw [hgt_pair]; omega)]
            refine iteT ?_
            refine ⟨_, rfl, b, dx, _, rfl, hb, rfl, _, rfl, _, _, x, y, rfl, r1, fun a H1 u1 u2 s1 hT q1 q2 => ?_⟩
            refine ⟨a, _, rfl, hT, rfl, _, _, rfl, _, _, rfl, rfl, ?_⟩
            obtain ⟨i1, i2, i3, i4⟩ := joinF_ok n by_ b2 (by omega)
            refine ⟨_, rfl, _, rfl, _, rfl, _, rfl, _, rfl, b, dx, _, _, some y, some t2, rfl, s1 _ _ hb, .inr ⟨y, rfl, q2⟩, .inr ⟨t2, rfl, r2.same s1⟩, (fun t e => by cases e; exact by_), (fun t e => by cases e; exact b2), ?_, fun u H2 s2 z => ?_⟩
            · show y.hgt + t2.hgt < n
              omega
            · rcases z with ⟨_, z⟩ | ⟨t, e, z⟩
              · cases z
              · cases e
                refine ⟨b, dx, _, _, x, _, rfl, (s1.trans s2) _ _ hb, q1.same s2, z, bx, i1, by omega, by omega, fun a3 H3 s3 q3 => ?_⟩
                exact qq a3 H3 (s1.trans (s2.trans s3)) q3
          · rw [decide_eq_false (show ¬ ((t2.hgt : Int) + 1 < (t1.hgt : Int)) by omega)]
            refine iteF ?_
            refine ⟨_, rfl, a2, cStem, _, _, _, rfl, h2, T.k_Stem.cl, nH, stF_height, _, rfl, a1, cStem, _, _, _, rfl, h1, T.k_Stem.cl, nH, stF_height, _, _, rfl, rfl, _, _, rfl, rfl, _, rfl, ?_⟩
            by_cases c1 : t1.hgt + 1 < t2.hgt
            · obtain ⟨x, y, rfl⟩ := bal_tall b2 (by omega)
              have e0 : joinF (n + 1) t1 (.pair x y) = evenP (joinF n t1 x) y := (if_neg c).trans (if_pos c1)
              rw [e0] at qq
              obtain ⟨bx, by_, e1, e2⟩ := bal_pair.mp b2
              rw [hgt_pair] at c1 hn
              rw [decide_eq_true (show ((t1.hgt : Int) + 1 < ((x.pair y).hgt : Int)) by rw [hgt_pair]; omega)]
              refine iteT ?_
              refine ⟨_, rfl, b, dx, _, rfl, hb, rfl, _, rfl, _, _, x, y, rfl, r2, fun a H1 u1 u2 s1 hT q1 q2 => ?_⟩
              refine ⟨a, _, rfl, hT, rfl, _, _, rfl, _, _, rfl, rfl, ?_⟩
              obtain ⟨i1, i2, i3, i4⟩ := joinF_ok n b1 bx (by omega)
              refine ⟨_, rfl, _, rfl, _, rfl, _, rfl, b, dx, _, _, some t1, some x, rfl, s1 _ _ hb, .inr ⟨t1, rfl, r1.same s1⟩, .inr ⟨x, rfl, q1⟩, (fun t e => by cases e; exact b1), (fun t e => by cases e; exact bx), ?_, fun u H2 s2 z => ?_⟩
              · show t1.hgt + x.hgt < n
                omega
              · rcases z with ⟨_, z⟩ | ⟨t, e, z⟩
                · cases z
                · cases e
                  refine ⟨_, rfl, b, dx, _, _, _, y, rfl, (s1.trans s2) _ _ hb, z, q2.same s2, i1, by_, by omega, by omega, fun a3 H3 s3 q3 => ?_⟩
                  exact qq a3 H3 (s1.trans (s2.trans s3)) q3
            · have e0 : joinF (n + 1) t1 t2 = .pair t1 t2 := (if_neg c).trans (if_neg c1)
              rw [e0] at qq
              rw [decide_eq_false (show ¬ ((t1.hgt : Int) + 1 < (t2.hgt : Int)) by omega)]
              refine iteF ?_
              exact ⟨_, rfl, b, dx, _, rfl, hb, rfl, _, rfl, _, rfl, _, _, _, _, _, rfl, r1, r2, qq⟩
end

section
variable {P : Program} {w : World} {K : PySem.W.Frag} {mg : Str → Option Value} {base : Heap} {cMatchError cBadShape cBadCount cBadBalance cStem cBuilder : Addr}
def spShapeOf (K : PySem.W.Frag) (C : Addr) (n : Nat) : Sp := fun vs H Q _ => ∃ v, vs = [v] ∧ 0 < n ∧ ((v = .non ∧ ∀ a H', Same H H' → SqT K H' a [] → Q (.ref a) H') ∨
  ∃ t, StAt C H v t ∧ t.hgt < n ∧ ∀ u H', Same H H' → RepTh K H' u t → Q u H')
theorem ok_shape_of (T : Top K mg cMatchError cBadShape cBadCount cBadBalance cStem cBuilder) : ∀ n, Cl P w K mg base n "shape_of" ["tree"] (spShapeOf K cStem n)
  | 0 => by
    exact T.d_shape_of.never fun vs H Q E h => by
      obtain ⟨_, _, z, _⟩ := h
      cases z
  | n + 1 => by
    have ih := ok_shape_of T n
    have nL := T.k_Stem.no "left" (by simp)
    have nR := T.k_Stem.no "right" (by simp)
    have nH := T.k_Stem.no "height" (by simp)
    refine T.d_shape_of.ok sc_shape_of (fun vs H Q E h => ?_) (fun f cdv A outer s H vs Q E hr h => ?_)
    · obtain ⟨v, rfl, _⟩ := h
      rfl
    · refine ⟨_, (pss_cons (ps_if (pt_cmpR op_isN (pv 0) pe_non (nomark _)) (pss_one (ps_ret (pe_tup pa_nil))) pss_nil)
      (pss_cons (ps_if (pt_cmpR op_eq (pe_fld (pv 0) rfl) pe_int (nomark _)) (pss_one (ps_ret pe_non)) pss_nil)
      (pss_one (ps_ret (pe_tup (pa_cons (pcN ih hr (Nat.le_refl _) (pa_cons (pe_fld (pv 0) rfl) pa_nil)) (pa_cons (pcN ih hr (Nat.le_refl _) (pa_cons (pe_fld (pv 0) rfl) pa_nil)) pa_nil))))))), ?_⟩
      obtain ⟨v, rfl, _, h⟩ := h
      rcases h with ⟨rfl, q⟩ | ⟨t, r, hm, q⟩
      · refine ⟨_, rfl, rfl, _, rfl, iteT ⟨by show 0 ≤ sizeLine; decide, fun l nl => ?_⟩⟩
        exact q l _ (same_new nl) (sqT_of upd_same)
      · cases r with
        | @one a dx h =>
          refine ⟨_, rfl, rfl, _, rfl, iteF ?_⟩
          refine ⟨_, rfl, a, cStem, _, _, _, rfl, h, T.k_Stem.cl, nH, stF_height, rfl, _, rfl, iteT ?_⟩
          exact q .non H (Same.refl _) .one
        | @pair a dx v1 v2 t1 t2 h r1 r2 =>
          have hm : 1 + max t1.hgt t2.hgt < n + 1 := hm
          refine ⟨_, rfl, rfl, _, rfl, iteF ?_⟩
          refine ⟨_, rfl, a, cStem, _, _, _, rfl, h, T.k_Stem.cl, nH, stF_height, rfl, _, rfl, ?_⟩
          rw [decide_eq_false (show ¬ V.int ((1 + max t1.hgt t2.hgt : Nat) : Int) = V.int 0 from fun z => by have := V.int.inj z; omega)]
          refine iteF ?_
          refine ⟨_, rfl, a, cStem, _, _, _, rfl, h, T.k_Stem.cl, nL, stF_left, v1, rfl, by omega, .inr ⟨t1, r1, by omega, fun u1 H1 s1 q1 => ?_⟩⟩
          refine ⟨_, rfl, a, cStem, _, _, _, rfl, s1 _ _ h, T.k_Stem.cl, nR, stF_right, v2, rfl, by omega, .inr ⟨t2, r2.same s1, by omega, fun u2 H2 s2 q2 => ?_⟩⟩
          refine ⟨by show 2 ≤ sizeLine; decide, fun l nl => ?_⟩
          have s3 := same_new (o := .tup [u1, u2]) nl
          exact q _ _ (s1.trans (s2.trans s3)) (.pair (sqT_of upd_same) (q1.keep (Keep.of (s2.trans s3))) (q2.keep (Keep.of s3)))
end

section
variable {P : Program} {w : World} {K : PySem.W.Frag} {mg : Str → Option Value} {base : Heap} {cMatchError cBadShape cBadCount cBadBalance cStem cBuilder : Addr}
def spJoined (K : PySem.W.Frag) (C D : Addr) : Sp := fun vs H Q E => ∃ v1 v2 t1 t2, vs = [v1, v2] ∧ RepTh K H v1 t1 ∧ RepTh K H v2 t2 ∧ (¬ t1.good → E (.ref C) none H) ∧ (t1.good → t1.isBal = false → E (.ref D) none H) ∧
  (t1.good → t1.isBal = true → ¬ t2.good → E (.ref C) none H) ∧ (t1.good → t1.isBal = true → t2.good → t2.isBal = false → E (.ref D) none H) ∧
  (t1.good → t1.isBal = true → t2.good → t2.isBal = true → 20000 < t1.wid + t2.wid → E (.ref D) none H) ∧
  (t1.good → t1.isBal = true → t2.good → t2.isBal = true → t1.wid + t2.wid ≤ 20000 → ∀ u H', Same H H' → RepTh K H' u (joinT t1 t2) → Q u H')
theorem ok_joined_shapes (T : Top K mg cMatchError cBadShape cBadCount cBadBalance cStem cBuilder) : Cl P w K mg base 58 "joined_shapes" ["shape", "other"] (spJoined K cBadShape cBadBalance) := by
  have c_need_balanced := ok_need_balanced (P := P) (w := w) (base := base) T
  have c_stem_of := ok_stem_of (P := P) (w := w) (base := base) T 41
  have c_row_joined := ok_row_joined (P := P) (w := w) (base := base) T 50
  have c_shape_of := ok_shape_of (P := P) (w := w) (base := base) T 51
  refine T.d_joined_shapes.ok sc_joined_shapes (fun vs H Q E h => ?_) (fun f cdv A outer s H vs Q E hr h => ?_)
  · obtain ⟨v1, v2, t1, t2, rfl, _⟩ := h
    rfl
  · refine ⟨_, (pss_cons (ps_set (i := 2) sc_joined_shapes.nd rfl (.inl rfl) (pcT c_need_balanced hr (by decide) (takes_of rfl rfl rfl rfl) (pa_cons (pv 0) pa_nil)))
      (pss_cons (ps_if (pt_cmpR op_gt (pe_op op_add (pv 2) (pcT c_need_balanced hr (by decide) (takes_of rfl rfl rfl rfl) (pa_cons (pv 1) pa_nil))) (C8.pe_gc (by rfl) T.v_MOST_NODES) (nomark _)) (pss_one (ps_raise rfl (takes_of rfl rfl rfl rfl) (pmk_own PySem.F.excBase_ValueError T.e_BadBalance.x T.e_BadBalance.g T.e_BadBalance.k (raises_own T.e_BadBalance.b T.e_BadBalance.t) (by rfl)))) pss_nil)
      (pss_one (ps_ret (pcN c_shape_of hr (by decide) (pa_cons (pcN c_row_joined hr (by decide) (pa_cons (pbare T.k_Builder T.b_Builder) (pa_cons (pcN c_stem_of hr (by decide) (pa_cons (pv 0) pa_nil)) (pa_cons (pcN c_stem_of hr (by decide) (pa_cons (pv 1) pa_nil)) pa_nil)))) pa_nil)))))), ?_⟩
    obtain ⟨v1, v2, t1, t2, rfl, r1, r2, q1, q2, q3, q4, q5, q6⟩ := h
    refine ⟨_, rfl, v1, t1, rfl, r1, fun g1 b1 => ?_, q1, q2⟩
    refine ⟨_, rfl, _, rfl, v2, t2, rfl, r2, fun g2 b2 => ?_, q3 g1 b1, q4 g1 b1⟩
    refine ⟨_, _, rfl, rfl, _, _, rfl, rfl, _, rfl, ?_⟩
    by_cases c : 20000 < t1.wid + t2.wid
    · rw [decide_eq_true (show ((20000 : Int) < (t1.wid : Int) + (t2.wid : Int)) by omega)]
      refine iteT ?_
      exact q5 g1 b1 g2 b2 c
    · rw [decide_eq_false (show ¬ ((20000 : Int) < (t1.wid : Int) + (t2.wid : Int)) by omega)]
      refine iteF ?_
      have h1 := bal_hgt b1 g1.2.2
      have h2 := bal_hgt b2 g2.2.2
      obtain ⟨i1, i2, i3, i4⟩ := joinF_ok 50 b1 b2 (by omega)
      refine fun b dx nb nd ne => ?_
      have S1 : Same H (upd (upd H dx (.own b)) b (.ins cBuilder dx [])) := same_upd2 nb (same_new nd)
      have hb : upd (upd H dx (.own b)) b (.ins cBuilder dx []) b = some (.ins cBuilder dx []) := upd_same
      generalize upd (upd H dx (.own b)) b (.ins cBuilder dx []) = H1 at S1 hb ⊢
      refine ⟨_, rfl, v1, t1, rfl, r1.keep (Keep.of S1), g1.1, by omega, fun a2 H2 s2 y1 => ?_⟩
      have S2 := S1.trans s2
      refine ⟨_, rfl, v2, t2, rfl, r2.keep (Keep.of S2), g2.1, by omega, fun a3 H3 s3 y2 => ?_⟩
      refine ⟨b, dx, _, _, some t1, some t2, rfl, (s2.trans s3) _ _ hb, .inr ⟨t1, rfl, y1.same s3⟩, .inr ⟨t2, rfl, y2⟩, (fun t e => by cases e; exact b1), (fun t e => by cases e; exact b2), ?_, fun u H4 s4 z => ?_⟩
      · show t1.hgt + t2.hgt < 50
        omega
      · rcases z with ⟨_, z⟩ | ⟨t, e, z⟩
        · cases z
        · cases e
          exact ⟨_, rfl, by decide, .inr ⟨_, z, by omega, fun u H5 s5 r5 => q6 g1 b1 g2 b2 (by omega) u H5 (S2.trans (s3.trans (s4.trans s5))) r5⟩⟩
end

section
variable {P : Program} {w : World} {K : PySem.W.Frag} {mg : Str → Option Value} {base : Heap} {cMatchError cBadShape cBadCount cBadBalance cStem cBuilder : Addr}
def spIsInteger (K : PySem.W.Frag) : Sp := fun vs H Q _ => ∃ v n, vs = [v] ∧ TyX K H v (.type n) ∧ n ∈ kinds ∧ Q (.bl (n == "int")) H
theorem ok_is_integer (T : Top K mg cMatchError cBadShape cBadCount cBadBalance cStem cBuilder) : Cl P w K mg base 1 "is_integer" ["thing"] (spIsInteger K) := by
  refine T.d_is_integer.ok sc_is_integer (fun vs H Q E h => ?_) (fun f cdv A outer s H vs Q E hr h => ?_)
  · obtain ⟨v, n, rfl, _⟩ := h
    rfl
  · refine ⟨_, (pss_one (ps_ret (pe_and (pe_callB call_isi (by rfl) T.n_isinstance (by decide +kernel) (pa_cons (pv 0) (pa_cons (pe_bltn (v := .ty "int") (by rfl) T.n_int (by decide +kernel) rfl) pa_nil))) (pe_one (pe_not (pe_callB call_isi (by rfl) T.n_isinstance (by decide +kernel) (pa_cons (pv 0) (pa_cons (pe_bltn (v := .ty "bool") (by rfl) T.n_bool (by decide +kernel) rfl) pa_nil)))))))), ?_⟩
    obtain ⟨v, n, rfl, ty, hn, q⟩ := h
    have k1 : PySem.W.kitOne K (.type n) (.type "int") = some (n == "int" || n == "bool") := by
      simp only [kinds, List.mem_cons, List.not_mem_nil, or_false] at hn
      rcases hn with rfl | rfl | rfl | rfl | rfl | rfl | rfl <;> exact kit_ty (by decide +kernel)
    have k2 : PySem.W.kitOne K (.type n) (.type "bool") = some (n == "bool") := by
      simp only [kinds, List.mem_cons, List.not_mem_nil, or_false] at hn
      rcases hn with rfl | rfl | rfl | rfl | rfl | rfl | rfl <;> exact kit_ty (by decide +kernel)
    refine ⟨_, rfl, _, _, _, _, _, rfl, .ty "int", ty, k1, _, rfl, ite2 (fun e => ?_) (fun e => ?_)⟩
    · refine ⟨_, rfl, _, _, _, _, _, rfl, .ty "bool", ty, k2, _, rfl, ?_⟩
      have e2 : (!(n == "bool")) = (n == "int") := by
        revert e
        simp only [kinds, List.mem_cons, List.not_mem_nil, or_false] at hn
        rcases hn with rfl | rfl | rfl | rfl | rfl | rfl | rfl <;> decide
      rw [e2]
      exact q
    · have e2 : (n == "int") = false := by
        revert e
        simp only [kinds, List.mem_cons, List.not_mem_nil, or_false] at hn
        rcases hn with rfl | rfl | rfl | rfl | rfl | rfl | rfl <;> decide
      rw [e2] at q
      exact q
end

section
variable {P : Program} {w : World} {K : PySem.W.Frag} {mg : Str → Option Value} {base : Heap} {cMatchError cBadShape cBadCount cBadBalance cStem cBuilder : Addr}
def spNeedCount (K : PySem.W.Frag) (C : Addr) : Sp := fun vs H Q E => ∃ v m n, vs = [v, .int m] ∧ TyX K H v (.type n) ∧ n ∈ kinds ∧
  ((∃ i, v = .int i ∧ 0 ≤ i ∧ i ≤ m) → Q .non H) ∧ ((¬ ∃ i, v = .int i ∧ 0 ≤ i ∧ i ≤ m) → E (.ref C) none H)
theorem ok_need_count (T : Top K mg cMatchError cBadShape cBadCount cBadBalance cStem cBuilder) : Cl P w K mg base 2 "need_count" ["thing", "most"] (spNeedCount K cBadCount) := by
  have c_is_integer := ok_is_integer (P := P) (w := w) (base := base) T
  refine T.d_need_count.ok sc_need_count (fun vs H Q E h => ?_) (fun f cdv A outer s H vs Q E hr h => ?_)
  · obtain ⟨v, m, n, rfl, _⟩ := h
    rfl
  · refine ⟨_, (pss_cons (ps_if (PW.pt (pw_or (pt_not (pt_val (pcN c_is_integer hr (by decide) (pa_cons (pv 0) pa_nil)))) (pw_or1 (pt_cmpR op_lt (pv 0) pe_int (nomark _))))) (pss_one (ps_raise rfl (takes_of rfl rfl rfl rfl) (pmk_own PySem.F.excBase_ValueError T.e_BadCount.x T.e_BadCount.g T.e_BadCount.k (raises_own T.e_BadCount.b T.e_BadCount.t) (by rfl)))) pss_nil)
      (pss_one (ps_if (PW.pt (pw_and (pt_cmpR op_notN (pv 1) pe_non (nomark _)) (pw_and1 (pt_cmpR op_gt (pv 0) (pv 1) (nomark _))))) (pss_one (ps_raise rfl (takes_of rfl rfl rfl rfl) (pmk_own PySem.F.excBase_ValueError T.e_BadCount.x T.e_BadCount.g T.e_BadCount.k (raises_own T.e_BadCount.b T.e_BadCount.t) (by rfl)))) pss_nil))), ?_⟩
    obtain ⟨v, m, n, rfl, ty, hn, qy, qn⟩ := h
    refine ⟨_, rfl, v, n, rfl, ty, hn, _, rfl, ?_⟩
    by_cases hi : n = "int"
    · subst hi
      obtain ⟨i, rfl⟩ : ∃ i, v = .int i := ty_int_inv ty
      refine ⟨_, rfl, _, _, rfl, rfl, _, rfl, ?_⟩
      refine ite2 (fun e => ?_) (fun e => ?_)
      · have e1 : i < 0 := of_decide_eq_true e
        refine qn ?_
        rintro ⟨j, hj, h1, h2⟩
        cases hj
        omega
      · have e1 : ¬ i < 0 := fun h => e (decide_eq_true h)
        refine ⟨_, rfl, rfl, _, rfl, ?_⟩
        refine ⟨_, rfl, _, rfl, _, _, rfl, rfl, _, rfl, ?_⟩
        refine ite2 (fun e => ?_) (fun e => ?_)
        · have e2 : m < i := of_decide_eq_true e
          refine qn ?_
          rintro ⟨j, hj, h1, h2⟩
          cases hj
          omega
        · have e2 : ¬ m < i := fun h => e (decide_eq_true h)
          exact qy ⟨i, rfl, by omega, by omega⟩
    · have hb : (n == "int") = false := by simpa using hi
      rw [hb]
      refine qn ?_
      rintro ⟨j, rfl, _⟩
      exact hi (ty_int_val ty)
end

section
variable {P : Program} {w : World} {K : PySem.W.Frag} {mg : Str → Option Value} {base : Heap} {cMatchError cBadShape cBadCount cBadBalance cStem cBuilder : Addr}
def spRowCut (K : PySem.W.Frag) (C B : Addr) (n : Nat) : Sp := fun vs H Q _ => ∃ b dx v t, ∃ m : Nat, vs = [.ref b, v, .int m] ∧ H b = some (.ins B dx []) ∧ StAt C H v t ∧ t.isBal = true ∧ t.wid ≤ 20000 ∧ m ≤ t.wid ∧ t.hgt < n ∧
  ∀ a u1 u2 H', Same H H' → SqT K H' a [u1, u2] → StO C H' u1 (cutT t m).1 → StO C H' u2 (cutT t m).2 → Q (.ref a) H'
theorem ok_row_cut (T : Top K mg cMatchError cBadShape cBadCount cBadBalance cStem cBuilder) : ∀ n, Cl P w K mg base (n + 55) "row_cut" ["builder", "tree", "many"] (spRowCut K cStem cBuilder n)
  | 0 => by
    exact T.d_row_cut.never fun vs H Q E h => by
      obtain ⟨b, dx, v, t, m, _, _, _, _, _, _, h, _⟩ := h
      omega
  | n + 1 => by
    have ih := ok_row_cut T n
    have c_row_joined := ok_row_joined (P := P) (w := w) (base := base) T 50
    have c_Builder_sides := ok_Builder_sides (P := P) (w := w) (base := base) T
    have nW := T.k_Stem.no "width" (by simp)
    refine T.d_row_cut.ok sc_row_cut (fun vs H Q E h => ?_) (fun f cdv A outer s H vs Q E hr h => ?_)
    · obtain ⟨b, dx, v, t, m, rfl, _⟩ := h
      rfl
    · refine ⟨_, (pss_cons (ps_if (pt_cmpR op_eq (pv 2) pe_int (nomark _)) (pss_one (ps_ret (pe_tup (pa_cons pe_non (pa_cons (pv 1) pa_nil))))) pss_nil)
      (pss_cons (ps_if (pt_cmpR op_eq (pv 2) (pe_fld (pv 1) rfl) (nomark _)) (pss_one (ps_ret (pe_tup (pa_cons (pv 1) (pa_cons pe_non pa_nil))))) pss_nil)
      (pss_cons (ps_asg (pmN c_Builder_sides T.k_Builder.cl hr (by omega) (pv 0) (pa_cons (pv 1) pa_nil)) (pg_tup rfl (pgs_cons (pg_name (i := 3) sc_row_cut.nd rfl (.inl rfl)) (pgs_cons (pg_name (i := 4) sc_row_cut.nd rfl (.inl rfl)) pgs_nil))))
      (pss_cons (ps_if (pt_cmpR op_le (pv 2) (pe_fld (pv 3) rfl) (nomark _)) (pss_cons (ps_asg (pcN ih hr (Nat.le_refl _) (pa_cons (pv 0) (pa_cons (pv 3) (pa_cons (pv 2) pa_nil)))) (pg_tup rfl (pgs_cons (pg_name (i := 5) sc_row_cut.nd rfl (.inl rfl)) (pgs_cons (pg_name (i := 6) sc_row_cut.nd rfl (.inl rfl)) pgs_nil))))
      (pss_one (ps_ret (pe_tup (pa_cons (pv 5) (pa_cons (pcN c_row_joined hr (by omega) (pa_cons (pv 0) (pa_cons (pv 6) (pa_cons (pv 4) pa_nil)))) pa_nil)))))) pss_nil)
      (pss_cons (ps_asg (pcN ih hr (Nat.le_refl _) (pa_cons (pv 0) (pa_cons (pv 4) (pa_cons (pe_op op_sub (pv 2) (pe_fld (pv 3) rfl)) pa_nil)))) (pg_tup rfl (pgs_cons (pg_name (i := 5) sc_row_cut.nd rfl (.inl rfl)) (pgs_cons (pg_name (i := 6) sc_row_cut.nd rfl (.inl rfl)) pgs_nil))))
      (pss_one (ps_ret (pe_tup (pa_cons (pcN c_row_joined hr (by omega) (pa_cons (pv 0) (pa_cons (pv 3) (pa_cons (pv 5) pa_nil)))) (pa_cons (pv 6) pa_nil)))))))))), ?_⟩
      obtain ⟨b, dx, v, t, m, rfl, hb, r, bt, hw, hm, hn, q⟩ := h
      have pair : ∀ (u1 u2 : V) (p1 p2 : Option Th) H1, Same H H1 → StO cStem H1 u1 p1 → StO cStem H1 u2 p2 → cutT t m = (p1, p2) → 2 ≤ sizeLine ∧ ∀ l, H1 l = none → Q (.ref l) (upd H1 l (.tup [u1, u2])) := fun u1 u2 p1 p2 H1 s1 o1 o2 e =>
        ⟨by decide, fun l nl => q l u1 u2 _ (s1.trans (same_new nl)) (sqT_of upd_same) (by rw [e]; exact o1.same (same_new nl)) (by rw [e]; exact o2.same (same_new nl))⟩
      refine ⟨_, rfl, rfl, _, rfl, ?_⟩
      by_cases c0 : m = 0
      · subst c0
        refine iteT ?_
        refine ⟨_, rfl, pair _ _ none (some t) H (Same.refl _) (.inl ⟨rfl, rfl⟩) (.inr ⟨t, rfl, r⟩) ?_⟩
        cases t with
        | one => rfl
        | other => cases bt
        | pair x y => exact if_pos rfl
      rw [decide_eq_false (show ¬ V.int (m : Int) = V.int 0 from fun z => c0 (by have := V.int.inj z; omega))]
      refine iteF ?_
      obtain ⟨a1, x1, l1, y1, rfl, h1⟩ := r.at_
      refine ⟨_, rfl, _, rfl, a1, cStem, _, _, _, rfl, h1, T.k_Stem.cl, nW, stF_width, rfl, _, rfl, ?_⟩
      by_cases c1 : m = t.wid
      · rw [decide_eq_true (show V.int (m : Int) = V.int (t.wid : Int) by rw [c1])]
        refine iteT ?_
        refine ⟨_, rfl, pair _ _ (some t) none H (Same.refl _) (.inr ⟨t, rfl, r⟩) (.inl ⟨rfl, rfl⟩) ?_⟩
        cases t with
        | one => exact if_neg c0
        | other => cases bt
        | pair x y => exact (if_neg c0).trans (if_pos c1)
      rw [decide_eq_false (show ¬ V.int (m : Int) = V.int (t.wid : Int) from fun z => c1 (by have := V.int.inj z; omega))]
      refine iteF ?_
      cases t with
      | one =>
        have : m ≤ 1 := hm
        have : m ≠ 1 := c1
        omega
      | other => cases bt
      | pair x y =>
        obtain ⟨bx, by_, e1, e2⟩ := bal_pair.mp bt
        rw [wid_pair] at hw hm c1
        rw [hgt_pair] at hn
        have px := bal_wid bx
        have py := bal_wid by_
        refine ⟨_, rfl, b, dx, _, rfl, hb, rfl, _, rfl, _, _, x, y, rfl, r, fun a H1 v1 v2 s1 hT q1 q2 => ?_⟩
        refine ⟨a, _, rfl, hT, rfl, _, _, rfl, _, _, rfl, rfl, ?_⟩
        obtain ⟨a3, x3, l3, s3, rfl, h3⟩ := q1.at_
        refine ⟨_, rfl, _, rfl, a3, cStem, _, _, _, rfl, h3, T.k_Stem.cl, nW, stF_width, _, _, rfl, rfl, _, rfl, ?_⟩
        by_cases c2 : m ≤ x.wid
        · rw [decide_eq_true (show (m : Int) ≤ (x.wid : Int) by omega)]
          refine iteT ?_
          obtain ⟨i1, i2⟩ := cutT_ok bx c2 (by omega)
          refine ⟨_, rfl, _, rfl, _, rfl, b, dx, _, x, m, rfl, s1 _ _ hb, q1, bx, by omega, c2, by omega, fun a4 u1 u2 H4 s4 hT4 o1 o2 => ?_⟩
          refine ⟨a4, _, rfl, hT4, rfl, _, _, rfl, _, _, rfl, rfl, ?_⟩
          have s14 := s1.trans s4
          refine ⟨_, rfl, _, rfl, _, rfl, _, rfl, b, dx, _, _, (cutT x m).2, some y, rfl, s14 _ _ hb, o2, .inr ⟨y, rfl, q2.same s4⟩, i2.bal, (fun t e => by cases e; exact by_), ?_, fun u H5 s5 z => ?_⟩
          · have := i2.hgt (by omega)
            have := bal_hgt by_ (by omega)
            show hgtO (cutT x m).2 + y.hgt < 50
            omega
          · rw [joinFO_joinO] at z
            exact pair _ _ _ _ H5 (s14.trans s5) (o1.same s5) z (((if_neg c0).trans (if_neg c1)).trans (if_pos c2))
        · rw [decide_eq_false (show ¬ (m : Int) ≤ (x.wid : Int) by omega)]
          refine iteF ?_
          have em : (m : Int) - (x.wid : Int) = ((m - x.wid : Nat) : Int) := by omega
          obtain ⟨i1, i2⟩ := cutT_ok by_ (show m - x.wid ≤ y.wid by omega) (by omega)
          refine ⟨_, rfl, _, rfl, _, rfl, _, rfl, a3, cStem, _, _, _, rfl, h3, T.k_Stem.cl, nW, stF_width, _, _, rfl, rfl, b, dx, _, y, m - x.wid, congrArg (fun z => [V.ref b, _, V.int z]) em, s1 _ _ hb, q2, by_, by omega, by omega, by omega, fun a4 u1 u2 H4 s4 hT4 o1 o2 => ?_⟩
          refine ⟨a4, _, rfl, hT4, rfl, _, _, rfl, _, _, rfl, rfl, ?_⟩
          have s14 := s1.trans s4
          refine ⟨_, rfl, _, rfl, _, rfl, b, dx, _, _, some x, (cutT y (m - x.wid)).1, rfl, s14 _ _ hb, .inr ⟨x, rfl, q1.same s4⟩, o1, (fun t e => by cases e; exact bx), i1.bal, ?_, fun u H5 s5 z => ?_⟩
          · have := i1.hgt (by omega)
            have := bal_hgt bx (by omega)
            show x.hgt + hgtO (cutT y (m - x.wid)).1 < 50
            omega
          · rw [joinFO_joinO] at z
            exact ⟨_, rfl, pair _ _ _ _ H5 (s14.trans s5) z (o2.same s5) (((if_neg c0).trans (if_neg c1)).trans (if_neg c2))⟩
end

section
variable {P : Program} {w : World} {K : PySem.W.Frag} {mg : Str → Option Value} {base : Heap} {cMatchError cBadShape cBadCount cBadBalance cStem cBuilder : Addr}
/-- a part of a shape as it is told: () for None -/
def PartAt (K : PySem.W.Frag) (H : Hp) (u : V) (p : Option Th) : Prop := (p = none ∧ ∃ a, u = .ref a ∧ SqT K H a []) ∨ ∃ t, p = some t ∧ RepTh K H u t
theorem PartAt.same {K : PySem.W.Frag} {H H' : Hp} {u : V} {p : Option Th} (s : Same H H') (h : PartAt K H u p) : PartAt K H' u p := by
  rcases h with ⟨e, a, e2, h⟩ | ⟨t, e, h⟩
  · exact .inl ⟨e, a, e2, Same.seqT s h⟩
  · exact .inr ⟨t, e, h.keep (Keep.of s)⟩
def spShapeP (K : PySem.W.Frag) (C : Addr) (n : Nat) : Sp := fun vs H Q _ => ∃ v p, vs = [v] ∧ StO C H v p ∧ hgtO p < n ∧ ∀ u H', Same H H' → PartAt K H' u p → Q u H'
theorem ok_shape_ofP (T : Top K mg cMatchError cBadShape cBadCount cBadBalance cStem cBuilder) (n : Nat) : Cl P w K mg base n "shape_of" ["tree"] (spShapeP K cStem n) := (ok_shape_of T n).imp fun vs H Q E h => by
  obtain ⟨v, p, rfl, z, hp, q⟩ := h
  refine ⟨v, rfl, by omega, ?_⟩
  rcases z with ⟨e, ep⟩ | ⟨t, ep, z⟩
  · exact .inl ⟨e, fun a H' s h => q _ _ s (.inl ⟨ep, a, rfl, h⟩)⟩
  · subst ep
    exact .inr ⟨t, z, hp, fun u' H' s r' => q _ _ s (.inr ⟨t, rfl, r'⟩)⟩
end

section
variable {P : Program} {w : World} {K : PySem.W.Frag} {mg : Str → Option Value} {base : Heap} {cMatchError cBadShape cBadCount cBadBalance cStem cBuilder : Addr}
def spCutShape (K : PySem.W.Frag) (C D G : Addr) : Sp := fun vs H Q E => ∃ v x t n, vs = [v, x] ∧ RepTh K H v t ∧ TyX K H x (.type n) ∧ n ∈ kinds ∧ (¬ t.good → E (.ref C) none H) ∧ (t.good → t.isBal = false → E (.ref D) none H) ∧
  (t.good → t.isBal = true → (¬ ∃ i : Int, x = .int i ∧ 0 ≤ i ∧ i ≤ t.wid) → E (.ref G) none H) ∧
  (t.good → t.isBal = true → ∀ m : Nat, x = .int m → m ≤ t.wid → ∀ a u1 u2 H', Same H H' → SqT K H' a [u1, u2] → PartAt K H' u1 (cutT t m).1 → PartAt K H' u2 (cutT t m).2 → Q (.ref a) H')
theorem ok_cut_shape (T : Top K mg cMatchError cBadShape cBadCount cBadBalance cStem cBuilder) : Cl P w K mg base 77 "cut_shape" ["shape", "many"] (spCutShape K cBadShape cBadBalance cBadCount) := by
  have c_need_count := ok_need_count (P := P) (w := w) (base := base) T
  have c_need_balanced := ok_need_balanced (P := P) (w := w) (base := base) T
  have c_stem_of := ok_stem_of (P := P) (w := w) (base := base) T 41
  have c_row_cut := ok_row_cut (P := P) (w := w) (base := base) T 21
  have c_shape_ofP := ok_shape_ofP (P := P) (w := w) (base := base) T 51
  refine T.d_cut_shape.ok sc_cut_shape (fun vs H Q E h => ?_) (fun f cdv A outer s H vs Q E hr h => ?_)
  · obtain ⟨v, x, t, n, rfl, _⟩ := h
    rfl
  · refine ⟨_, (pss_cons (ps_expr (pcT c_need_count hr (by decide) (takes_of rfl rfl rfl rfl) (pa_cons (pv 1) (pa_cons (pcT c_need_balanced hr (by decide) (takes_of rfl rfl rfl rfl) (pa_cons (pv 0) pa_nil)) pa_nil))))
      (pss_cons (ps_asg (pcN c_row_cut hr (by decide) (pa_cons (pbare T.k_Builder T.b_Builder) (pa_cons (pcN c_stem_of hr (by decide) (pa_cons (pv 0) pa_nil)) (pa_cons (pv 1) pa_nil)))) (pg_tup rfl (pgs_cons (pg_name (i := 2) sc_cut_shape.nd rfl (.inl rfl)) (pgs_cons (pg_name (i := 3) sc_cut_shape.nd rfl (.inl rfl)) pgs_nil))))
      (pss_one (ps_ret (pe_tup (pa_cons (pcN c_shape_ofP hr (by decide) (pa_cons (pv 2) pa_nil)) (pa_cons (pcN c_shape_ofP hr (by decide) (pa_cons (pv 3) pa_nil)) pa_nil))))))), ?_⟩
    obtain ⟨v, x, t, n, rfl, r, ty, hn, q1, q2, q3, q4⟩ := h
    refine ⟨_, rfl, _, rfl, v, t, rfl, r, fun g bt => ?_, q1, q2⟩
    refine ⟨x, _, n, rfl, ty, hn, ?_, q3 g bt⟩
    rintro ⟨i, rfl, i0, i1⟩
    obtain ⟨m, rfl⟩ : ∃ m : Nat, i = m := ⟨i.toNat, by omega⟩
    have q4 := q4 g bt m rfl (by omega)
    have hw := g.2.2
    have hh := bal_hgt bt hw
    refine fun b dx nb nd ne => ?_
    have S1 : Same H (upd (upd H dx (.own b)) b (.ins cBuilder dx [])) := same_upd2 nb (same_new nd)
    have hb : upd (upd H dx (.own b)) b (.ins cBuilder dx []) b = some (.ins cBuilder dx []) := upd_same
    generalize upd (upd H dx (.own b)) b (.ins cBuilder dx []) = H1 at S1 hb ⊢
    refine ⟨_, rfl, v, t, rfl, r.keep (Keep.of S1), g.1, by omega, fun a2 H2 s2 y1 => ?_⟩
    have S2 := S1.trans s2
    obtain ⟨o1, o2⟩ := cutT_ok bt (show m ≤ t.wid by omega) (by omega)
    refine ⟨_, rfl, b, dx, _, t, m, rfl, s2 _ _ hb, y1, bt, hw, by omega, by omega, fun a u1 u2 H3 s3 hT z1 z2 => ?_⟩
    refine ⟨a, _, rfl, hT, rfl, _, _, rfl, _, _, rfl, rfl, ?_⟩
    have S3 := S2.trans s3
    refine ⟨_, rfl, u1, _, rfl, z1, Nat.lt_of_le_of_lt (o1.hgt (by omega)) (by decide), fun w1 H4 s4 p1 => ?_⟩
    refine ⟨_, rfl, u2, _, rfl, z2.same s4, Nat.lt_of_le_of_lt (o2.hgt (by omega)) (by decide), fun w2 H5 s5 p2 => ?_⟩
    refine ⟨by show 2 ≤ sizeLine; decide, fun l nl => ?_⟩
    have S6 := same_new (o := .tup [w1, w2]) nl
    exact q4 l w1 w2 _ (S3.trans (s4.trans (s5.trans S6))) (sqT_of upd_same) ((p1.same s5).same S6) (p2.same S6)
end

section
variable {P : Program} {w : World} {K : PySem.W.Frag} {mg : Str → Option Value} {base : Heap} {cMatchError cBadShape cBadCount cBadBalance cStem cBuilder : Addr}
def spRowWithout (K : PySem.W.Frag) (C B : Addr) (n : Nat) : Sp := fun vs H Q _ => ∃ b dx v t, ∃ m : Nat, vs = [.ref b, v, .int m] ∧ H b = some (.ins B dx []) ∧ StAt C H v t ∧ t.isBal = true ∧ t.hgt < n ∧
  ∀ u H', Same H H' → StO C H' u (lessT t m) → Q u H'
theorem ok_row_without (T : Top K mg cMatchError cBadShape cBadCount cBadBalance cStem cBuilder) : ∀ n, Cl P w K mg base (n + 4) "row_without" ["builder", "tree", "place"] (spRowWithout K cStem cBuilder n)
  | 0 => by
    exact T.d_row_without.never fun vs H Q E h => by
      obtain ⟨b, dx, v, t, m, _, _, _, _, h, _⟩ := h
      omega
  | n + 1 => by
    have ih := ok_row_without T n
    have c_even_pair := ok_even_pair (P := P) (w := w) (base := base) T
    have c_Builder_sides := ok_Builder_sides (P := P) (w := w) (base := base) T
    have nW := T.k_Stem.no "width" (by simp)
    have nH := T.k_Stem.no "height" (by simp)
    refine T.d_row_without.ok sc_row_without (fun vs H Q E h => ?_) (fun f cdv A outer s H vs Q E hr h => ?_)
    · obtain ⟨b, dx, v, t, m, rfl, _⟩ := h
      rfl
    · refine ⟨_, (pss_cons (ps_if (pt_cmpR op_eq (pe_fld (pv 1) rfl) pe_int (nomark _)) (pss_one (ps_ret pe_non)) pss_nil)
      (pss_cons (ps_asg (pmN c_Builder_sides T.k_Builder.cl hr (by omega) (pv 0) (pa_cons (pv 1) pa_nil)) (pg_tup rfl (pgs_cons (pg_name (i := 3) sc_row_without.nd rfl (.inl rfl)) (pgs_cons (pg_name (i := 4) sc_row_without.nd rfl (.inl rfl)) pgs_nil))))
      (pss_cons (ps_if (pt_cmpR op_lt (pv 2) (pe_fld (pv 3) rfl) (nomark _)) (pss_cons (ps_set (i := 5) sc_row_without.nd rfl (.inl rfl) (pcN ih hr (Nat.le_refl _) (pa_cons (pv 0) (pa_cons (pv 3) (pa_cons (pv 2) pa_nil)))))
      (pss_one (ps_ret (pe_ifExp (pt_cmpR op_isN (pv 5) pe_non (nomark _)) (pv 4) (pcN c_even_pair hr (by omega) (pa_cons (pv 0) (pa_cons (pv 5) (pa_cons (pv 4) pa_nil)))))))) pss_nil)
      (pss_cons (ps_set (i := 5) sc_row_without.nd rfl (.inl rfl) (pcN ih hr (Nat.le_refl _) (pa_cons (pv 0) (pa_cons (pv 4) (pa_cons (pe_op op_sub (pv 2) (pe_fld (pv 3) rfl)) pa_nil)))))
      (pss_one (ps_ret (pe_ifExp (pt_cmpR op_isN (pv 5) pe_non (nomark _)) (pv 3) (pcN c_even_pair hr (by omega) (pa_cons (pv 0) (pa_cons (pv 3) (pa_cons (pv 5) pa_nil))))))))))), ?_⟩
      obtain ⟨b, dx, v, t, m, rfl, hb, r, bt, hn, q⟩ := h
      obtain ⟨a1, x1, l1, y1, rfl, h1⟩ := r.at_
      refine ⟨_, rfl, a1, cStem, _, _, _, rfl, h1, T.k_Stem.cl, nH, stF_height, rfl, _, rfl, ?_⟩
      cases t with
      | other => cases bt
      | one =>
        refine iteT ?_
        exact q .non H (Same.refl _) (.inl ⟨rfl, rfl⟩)
      | pair x y =>
        obtain ⟨bx, by_, e1, e2⟩ := bal_pair.mp bt
        rw [hgt_pair] at hn
        rw [decide_eq_false (show ¬ V.int (((x.pair y).hgt : Nat) : Int) = V.int 0 from fun z => by have := V.int.inj z; rw [hgt_pair] at this; omega)]
        refine iteF ?_
        refine ⟨_, rfl, b, dx, _, rfl, hb, rfl, _, rfl, _, _, x, y, rfl, r, fun a H1 v1 v2 s1 hT q1 q2 => ?_⟩
        refine ⟨a, _, rfl, hT, rfl, _, _, rfl, _, _, rfl, rfl, ?_⟩
        obtain ⟨a3, x3, l3, s3, rfl, h3⟩ := q1.at_
        refine ⟨_, rfl, _, rfl, a3, cStem, _, _, _, rfl, h3, T.k_Stem.cl, nW, stF_width, _, _, rfl, rfl, _, rfl, ?_⟩
        by_cases c2 : m < x.wid
        · rw [decide_eq_true (show (m : Int) < (x.wid : Int) by omega)]
          refine iteT ?_
          have eq : lessT (.pair x y) m = (match lessT x m with | none => some y | some t => some (evenP t y)) := if_pos c2
          refine ⟨_, rfl, _, rfl, _, rfl, b, dx, _, x, m, rfl, s1 _ _ hb, q1, bx, by omega, fun u H4 s4 z4 => ?_⟩
          have s14 := s1.trans s4
          rcases lessT_ok (p := m) bx with ⟨i1, i2, i3⟩ | ⟨t, i1, i2, i3, i4, i5⟩
          · rw [i1] at z4 eq
            rcases z4 with ⟨rfl, _⟩ | ⟨_, e, _⟩
            · refine ⟨_, rfl, rfl, _, rfl, iteT ⟨_, rfl, ?_⟩⟩
              exact q _ H4 s14 (.inr ⟨y, eq, q2.same s4⟩)
            · cases e
          · rw [i1] at z4 eq
            rcases z4 with ⟨_, e⟩ | ⟨t', e, z4⟩
            · cases e
            · cases e
              obtain ⟨a4, x4, l4, s4', rfl, h4⟩ := z4.at_
              refine ⟨_, rfl, rfl, _, rfl, iteF ?_⟩
              refine ⟨_, rfl, _, rfl, _, rfl, b, dx, _, _, t, y, rfl, s14 _ _ hb, z4, q2.same s4, i2, by_, by omega, by omega, fun a5 H5 s5 z5 => ?_⟩
              exact q _ H5 (s14.trans s5) (.inr ⟨_, eq, z5⟩)
        · rw [decide_eq_false (show ¬ (m : Int) < (x.wid : Int) by omega)]
          refine iteF ?_
          have em : (m : Int) - (x.wid : Int) = ((m - x.wid : Nat) : Int) := by omega
          have eq : lessT (.pair x y) m = (match lessT y (m - x.wid) with | none => some x | some t => some (evenP x t)) := if_neg c2
          refine ⟨_, rfl, _, rfl, _, rfl, _, rfl, a3, cStem, _, _, _, rfl, h3, T.k_Stem.cl, nW, stF_width, _, _, rfl, rfl, b, dx, _, y, m - x.wid, congrArg (fun z => [V.ref b, _, V.int z]) em, s1 _ _ hb, q2, by_, by omega, fun u H4 s4 z4 => ?_⟩
          have s14 := s1.trans s4
          rcases lessT_ok (p := m - x.wid) by_ with ⟨i1, i2, i3⟩ | ⟨t, i1, i2, i3, i4, i5⟩
          · rw [i1] at z4 eq
            rcases z4 with ⟨rfl, _⟩ | ⟨_, e, _⟩
            · refine ⟨_, rfl, rfl, _, rfl, iteT ⟨_, rfl, ?_⟩⟩
              exact q _ H4 s14 (.inr ⟨x, eq, q1.same s4⟩)
            · cases e
          · rw [i1] at z4 eq
            rcases z4 with ⟨_, e⟩ | ⟨t', e, z4⟩
            · cases e
            · cases e
              obtain ⟨a4, x4, l4, s4', rfl, h4⟩ := z4.at_
              refine ⟨_, rfl, rfl, _, rfl, iteF ?_⟩
              refine ⟨_, rfl, _, rfl, _, rfl, b, dx, _, _, x, t, rfl, s14 _ _ hb, q1.same s4, z4, bx, i2, by omega, by omega, fun a5 H5 s5 z5 => ?_⟩
              exact q _ H5 (s14.trans s5) (.inr ⟨_, eq, z5⟩)
end

section
variable {P : Program} {w : World} {K : PySem.W.Frag} {mg : Str → Option Value} {base : Heap} {cMatchError cBadShape cBadCount cBadBalance cStem cBuilder : Addr}
def spTakenShape (K : PySem.W.Frag) (C D G : Addr) : Sp := fun vs H Q E => ∃ v x n t, vs = [v, x] ∧ RepTh K H v t ∧ TyX K H x (.type n) ∧ n ∈ kinds ∧
  (¬ t.good → E (.ref C) none H) ∧ (t.good → t.isBal = false → E (.ref D) none H) ∧
  (t.good → t.isBal = true → (¬ ∃ i : Int, x = .int i ∧ 0 ≤ i ∧ i < t.wid) → E (.ref G) none H) ∧
  (t.good → t.isBal = true → ∀ m : Nat, x = .int m → m < t.wid → ∀ u H', Same H H' → PartAt K H' u (lessT t m) → Q u H')
theorem ok_taken_shape (T : Top K mg cMatchError cBadShape cBadCount cBadBalance cStem cBuilder) : Cl P w K mg base 77 "taken_shape" ["shape", "place"] (spTakenShape K cBadShape cBadBalance cBadCount) := by
  have c_need_count := ok_need_count (P := P) (w := w) (base := base) T
  have c_need_balanced := ok_need_balanced (P := P) (w := w) (base := base) T
  have c_stem_of := ok_stem_of (P := P) (w := w) (base := base) T 41
  have c_row_without := ok_row_without (P := P) (w := w) (base := base) T 22
  have c_shape_ofP := ok_shape_ofP (P := P) (w := w) (base := base) T 51
  refine T.d_taken_shape.ok sc_taken_shape (fun vs H Q E h => ?_) (fun f cdv A outer s H vs Q E hr h => ?_)
  · obtain ⟨v, x, n, t, rfl, _⟩ := h
    rfl
  · refine ⟨_, (pss_cons (ps_expr (pcT c_need_count hr (by decide) (takes_of rfl rfl rfl rfl) (pa_cons (pv 1) (pa_cons (pe_op op_sub (pcT c_need_balanced hr (by decide) (takes_of rfl rfl rfl rfl) (pa_cons (pv 0) pa_nil)) pe_int) pa_nil))))
      (pss_one (ps_ret (pcN c_shape_ofP hr (by decide) (pa_cons (pcN c_row_without hr (by decide) (pa_cons (pbare T.k_Builder T.b_Builder) (pa_cons (pcN c_stem_of hr (by decide) (pa_cons (pv 0) pa_nil)) (pa_cons (pv 1) pa_nil)))) pa_nil))))), ?_⟩
    obtain ⟨v, x, n, t, rfl, r, ty, hn, q1, q2, q3, q4⟩ := h
    refine ⟨_, rfl, _, rfl, v, t, rfl, r, fun g bt => ?_, q1, q2⟩
    refine ⟨_, _, rfl, rfl, x, _, n, rfl, ty, hn, ?_, fun z => q3 g bt fun ⟨i, e, h1, h2⟩ => z ⟨i, e, h1, by omega⟩⟩
    rintro ⟨i, rfl, i0, i1⟩
    obtain ⟨m, rfl⟩ : ∃ m : Nat, i = m := ⟨i.toNat, by omega⟩
    have q4 := q4 g bt m rfl (by omega)
    have hh := bal_hgt bt g.2.2
    refine fun b dx nb nd ne => ?_
    have S1 : Same H (upd (upd H dx (.own b)) b (.ins cBuilder dx [])) := same_upd2 nb (same_new nd)
    have hb : upd (upd H dx (.own b)) b (.ins cBuilder dx []) b = some (.ins cBuilder dx []) := upd_same
    generalize upd (upd H dx (.own b)) b (.ins cBuilder dx []) = H1 at S1 hb ⊢
    refine ⟨_, rfl, v, t, rfl, r.keep (Keep.of S1), g.1, by omega, fun a2 H2 s2 y1 => ?_⟩
    refine ⟨_, rfl, b, dx, _, t, m, rfl, s2 _ _ hb, y1, bt, by omega, fun u1 H3 s3 z1 => ?_⟩
    refine ⟨u1, _, rfl, z1, ?_, fun w1 H4 s4 p1 => q4 w1 H4 (S1.trans (s2.trans (s3.trans s4))) p1⟩
    rcases lessT_ok (p := m) bt with ⟨i1, _⟩ | ⟨u, i1, i2, i3, i4, i5⟩
    · rw [i1]
      show 0 < 51
      decide
    · rw [i1]
      show u.hgt < 51
      omega
end

section
variable {P : Program} {w : World} {K : PySem.W.Frag} {mg : Str → Option Value} {base : Heap} {cMatchError cBadShape cBadCount cBadBalance cStem cBuilder : Addr}
def spRowWith (K : PySem.W.Frag) (C B : Addr) (n : Nat) : Sp := fun vs H Q _ => ∃ b dx v c p, ∃ m : Nat, vs = [.ref b, v, .int m, c] ∧ 0 < n ∧ H b = some (.ins B dx []) ∧ StO C H v p ∧ BalO p ∧ hgtO p < n ∧ StAt C H c .one ∧
  ∀ a H', Same H H' → StAt C H' (.ref a) (match p with | none => .one | some t => withT t m) → Q (.ref a) H'
theorem ok_row_with (T : Top K mg cMatchError cBadShape cBadCount cBadBalance cStem cBuilder) : ∀ n, Cl P w K mg base (n + 4) "row_with" ["builder", "tree", "place", "child"] (spRowWith K cStem cBuilder n)
  | 0 => by
    exact T.d_row_with.never fun vs H Q E h => by
      obtain ⟨b, dx, v, c, p, m, _, h, _⟩ := h
      omega
  | n + 1 => by
    have ih := ok_row_with T n
    have c_even_pair := ok_even_pair (P := P) (w := w) (base := base) T
    have c_Builder_pair := ok_Builder_pair (P := P) (w := w) (base := base) T
    have c_Builder_sides := ok_Builder_sides (P := P) (w := w) (base := base) T
    have nW := T.k_Stem.no "width" (by simp)
    have nH := T.k_Stem.no "height" (by simp)
    refine T.d_row_with.ok sc_row_with (fun vs H Q E h => ?_) (fun f cdv A outer s H vs Q E hr h => ?_)
    · obtain ⟨b, dx, v, c, p, m, rfl, _⟩ := h
      rfl
    · refine ⟨_, (pss_cons (ps_if (pt_cmpR op_isN (pv 1) pe_non (nomark _)) (pss_one (ps_ret (pv 3))) pss_nil)
      (pss_cons (ps_if (pt_cmpR op_eq (pe_fld (pv 1) rfl) pe_int (nomark _)) (pss_one (ps_ret (pe_ifExp (pt_cmpR op_eq (pv 2) pe_int (nomark _)) (pmN c_Builder_pair T.k_Builder.cl hr (by omega) (pv 0) (pa_cons (pv 3) (pa_cons (pv 1) pa_nil))) (pmN c_Builder_pair T.k_Builder.cl hr (by omega) (pv 0) (pa_cons (pv 1) (pa_cons (pv 3) pa_nil)))))) pss_nil)
      (pss_cons (ps_asg (pmN c_Builder_sides T.k_Builder.cl hr (by omega) (pv 0) (pa_cons (pv 1) pa_nil)) (pg_tup rfl (pgs_cons (pg_name (i := 4) sc_row_with.nd rfl (.inl rfl)) (pgs_cons (pg_name (i := 5) sc_row_with.nd rfl (.inl rfl)) pgs_nil))))
      (pss_cons (ps_if (pt_cmpR op_le (pv 2) (pe_fld (pv 4) rfl) (nomark _)) (pss_one (ps_ret (pcN c_even_pair hr (by omega) (pa_cons (pv 0) (pa_cons (pcN ih hr (Nat.le_refl _) (pa_cons (pv 0) (pa_cons (pv 4) (pa_cons (pv 2) (pa_cons (pv 3) pa_nil))))) (pa_cons (pv 5) pa_nil)))))) pss_nil)
      (pss_one (ps_ret (pcN c_even_pair hr (by omega) (pa_cons (pv 0) (pa_cons (pv 4) (pa_cons (pcN ih hr (Nat.le_refl _) (pa_cons (pv 0) (pa_cons (pv 5) (pa_cons (pe_op op_sub (pv 2) (pe_fld (pv 4) rfl)) (pa_cons (pv 3) pa_nil))))) pa_nil)))))))))), ?_⟩
      obtain ⟨b, dx, v, c, p, m, rfl, _, hb, r, bt, hn, rc, q⟩ := h
      rcases r with ⟨rfl, rfl⟩ | ⟨t, rfl, r⟩
      · obtain ⟨ac, _, _, _, rfl, _⟩ := rc.at_
        exact ⟨_, rfl, rfl, _, rfl, iteT ⟨_, rfl, q ac H (Same.refl _) rc⟩⟩
      have bt := bt t rfl
      have hn : t.hgt < n + 1 := hn
      obtain ⟨a1, x1, l1, y1, rfl, h1⟩ := r.at_
      refine ⟨_, rfl, rfl, _, rfl, iteF ?_⟩
      refine ⟨_, rfl, a1, cStem, _, _, _, rfl, h1, T.k_Stem.cl, nH, stF_height, rfl, _, rfl, ?_⟩
      cases t with
      | other => cases bt
      | one =>
        refine iteT ?_
        refine ⟨_, rfl, rfl, _, rfl, ite2 (fun _ => ?_) (fun _ => ?_)⟩
        · exact ⟨_, rfl, b, dx, _, rfl, hb, rfl, _, rfl, _, rfl, _, _, _, .one, .one, rfl, rc, r, q⟩
        · exact ⟨_, rfl, b, dx, _, rfl, hb, rfl, _, rfl, _, rfl, _, _, _, .one, .one, rfl, r, rc, q⟩
      | pair x y =>
        obtain ⟨bx, by_, e1, e2⟩ := bal_pair.mp bt
        rw [hgt_pair] at hn
        rw [decide_eq_false (show ¬ V.int (((x.pair y).hgt : Nat) : Int) = V.int 0 from fun z => by have := V.int.inj z; rw [hgt_pair] at this; omega)]
        refine iteF ?_
        refine ⟨_, rfl, b, dx, _, rfl, hb, rfl, _, rfl, _, _, x, y, rfl, r, fun a H1 v1 v2 s1 hT q1 q2 => ?_⟩
        refine ⟨a, _, rfl, hT, rfl, _, _, rfl, _, _, rfl, rfl, ?_⟩
        obtain ⟨a3, x3, l3, s3, rfl, h3⟩ := q1.at_
        refine ⟨_, rfl, _, rfl, a3, cStem, _, _, _, rfl, h3, T.k_Stem.cl, nW, stF_width, _, _, rfl, rfl, _, rfl, ?_⟩
        by_cases c2 : m ≤ x.wid
        · rw [decide_eq_true (show (m : Int) ≤ (x.wid : Int) by omega)]
          refine iteT ?_
          have eq : withT (.pair x y) m = evenP (withT x m) y := if_pos c2
          obtain ⟨i1, i2, i3, i4⟩ := withT_ok (p := m) bx
          refine ⟨_, rfl, _, rfl, _, rfl, _, rfl, _, rfl, b, dx, _, _, some x, m, rfl, by omega, s1 _ _ hb, .inr ⟨x, rfl, q1⟩, (fun t e => by cases e; exact bx), (show x.hgt < n by omega), rc.same s1, fun a4 H4 s4 z4 => ?_⟩
          have s14 := s1.trans s4
          refine ⟨_, rfl, b, dx, _, _, _, y, rfl, s14 _ _ hb, z4, q2.same s4, i1, by_, by show (withT x m).hgt ≤ _; omega, by show _ ≤ (withT x m).hgt + 2; omega, fun a5 H5 s5 z5 => ?_⟩
          exact q a5 H5 (s14.trans s5) (by show StAt _ _ _ (withT (.pair x y) m); rw [eq]; exact z5)
        · rw [decide_eq_false (show ¬ (m : Int) ≤ (x.wid : Int) by omega)]
          refine iteF ?_
          have em : (m : Int) - (x.wid : Int) = ((m - x.wid : Nat) : Int) := by omega
          have eq : withT (.pair x y) m = evenP x (withT y (m - x.wid)) := if_neg c2
          obtain ⟨i1, i2, i3, i4⟩ := withT_ok (p := m - x.wid) by_
          refine ⟨_, rfl, _, rfl, _, rfl, _, rfl, _, rfl, _, rfl, a3, cStem, _, _, _, rfl, h3, T.k_Stem.cl, nW, stF_width, _, _, rfl, rfl, _, rfl, b, dx, _, _, some y, m - x.wid, congrArg (fun z => [V.ref b, _, V.int z, c]) em, by omega, s1 _ _ hb, .inr ⟨y, rfl, q2⟩, (fun t e => by cases e; exact by_), (show y.hgt < n by omega), rc.same s1, fun a4 H4 s4 z4 => ?_⟩
          have s14 := s1.trans s4
          refine ⟨b, dx, _, _, x, _, rfl, s14 _ _ hb, q1.same s4, z4, bx, i1, by show _ ≤ (withT y (m - x.wid)).hgt + 2; omega, by show (withT y (m - x.wid)).hgt ≤ _; omega, fun a5 H5 s5 z5 => ?_⟩
          exact q a5 H5 (s14.trans s5) (by show StAt _ _ _ (withT (.pair x y) m); rw [eq]; exact z5)
end

section
variable {P : Program} {w : World} {K : PySem.W.Frag} {mg : Str → Option Value} {base : Heap} {cMatchError cBadShape cBadCount cBadBalance cStem cBuilder : Addr}
def spPutShape (K : PySem.W.Frag) (C D G : Addr) : Sp := fun vs H Q E => ∃ v x n em t, vs = [v, x] ∧ RepTh K H v t ∧ EmpQ K H v em ∧ TyX K H x (.type n) ∧ n ∈ kinds ∧
  (em = true → (¬ x = .int 0) → ∀ H', Same H H' → E (.ref G) none H') ∧ (em = true → x = .int 0 → ∀ u H', Same H H' → RepTh K H' u .one → Q u H') ∧
  (em = false → ¬ t.good → ∀ H', Same H H' → E (.ref C) none H') ∧ (em = false → t.good → t.isBal = false → ∀ H', Same H H' → E (.ref D) none H') ∧
  (em = false → t.good → t.isBal = true → (¬ ∃ i : Int, x = .int i ∧ 0 ≤ i ∧ i ≤ t.wid) → ∀ H', Same H H' → E (.ref G) none H') ∧
  (em = false → t.good → t.isBal = true → (∃ i : Int, x = .int i ∧ 0 ≤ i ∧ i ≤ t.wid) → t.wid = 20000 → ∀ H', Same H H' → E (.ref D) none H') ∧
  (em = false → t.good → t.isBal = true → ∀ m : Nat, x = .int m → m ≤ t.wid → t.wid ≠ 20000 → ∀ u H', Same H H' → RepTh K H' u (withT t m) → Q u H')
theorem ok_put_shape (T : Top K mg cMatchError cBadShape cBadCount cBadBalance cStem cBuilder) : Cl P w K mg base 77 "put_shape" ["shape", "place"] (spPutShape K cBadShape cBadBalance cBadCount) := by
  have c_need_count := ok_need_count (P := P) (w := w) (base := base) T
  have c_need_balanced := ok_need_balanced (P := P) (w := w) (base := base) T
  have c_stem_of := ok_stem_of (P := P) (w := w) (base := base) T 41
  have c_row_with := ok_row_with (P := P) (w := w) (base := base) T 22
  have c_shape_ofP := ok_shape_ofP (P := P) (w := w) (base := base) T 51
  refine T.d_put_shape.ok sc_put_shape (fun vs H Q E h => ?_) (fun f cdv A outer s H vs Q E hr h => ?_)
  · obtain ⟨v, x, n, em, t, rfl, _⟩ := h
    rfl
  · refine ⟨_, (pss_cons (ps_set (i := 2) sc_put_shape.nd rfl (.inl rfl) (pe_ifExp (pt_cmpR (op_eqE hr.units) (pv 0) (pe_tup pa_nil) (nomark _)) pe_int (pcT c_need_balanced hr (by decide) (takes_of rfl rfl rfl rfl) (pa_cons (pv 0) pa_nil))))
      (pss_cons (ps_expr (pcT c_need_count hr (by decide) (takes_of rfl rfl rfl rfl) (pa_cons (pv 1) (pa_cons (pv 2) pa_nil))))
      (pss_cons (ps_if (pt_cmpR op_eq (pv 2) (C8.pe_gc (by rfl) T.v_MOST_NODES) (nomark _)) (pss_one (ps_raise rfl (takes_of rfl rfl rfl rfl) (pmk_own PySem.F.excBase_ValueError T.e_BadBalance.x T.e_BadBalance.g T.e_BadBalance.k (raises_own T.e_BadBalance.b T.e_BadBalance.t) (by rfl)))) pss_nil)
      (pss_cons (ps_set (i := 3) sc_put_shape.nd rfl (.inl rfl) (pe_ifExp (pt_cmpR (op_eqE hr.units) (pv 0) (pe_tup pa_nil) (nomark _)) pe_non (pcN c_stem_of hr (by decide) (pa_cons (pv 0) pa_nil))))
      (pss_one (ps_ret (pcN c_shape_ofP hr (by decide) (pa_cons (pcN c_row_with hr (by decide) (pa_cons (pbare T.k_Builder T.b_Builder) (pa_cons (pv 3) (pa_cons (pv 1) (pa_cons (pcN c_stem_of hr (by decide) (pa_cons pe_non pa_nil)) pa_nil))))) pa_nil)))))))), ?_⟩
    obtain ⟨v, x, n, em, t, rfl, r, hem, ty, hn, qa, qb, q1, q2, q3, q4, q5⟩ := h
    refine ⟨_, rfl, by show 0 ≤ sizeLine; decide, fun l nl => ?_⟩
    have S0 := same_new (o := .tup []) nl
    have hl : SqT K (upd H l (.tup [])) l [] := sqT_of upd_same
    generalize upd H l (.tup []) = H0 at S0 hl ⊢
    cases em with
    | true =>
      refine ⟨l, true, rfl, hl, hem.keep (Keep.of S0), _, rfl, iteT ?_⟩
      by_cases hx : x = .int 0
      · subst hx
        refine ⟨_, rfl, _, rfl, .int 0, 0, "int", rfl, ty_int _, by decide, fun _ => ?_, fun z => (z ⟨0, rfl, by decide, by decide⟩).elim⟩
        refine ⟨_, rfl, rfl, _, rfl, iteF ?_⟩
        refine ⟨_, rfl, by show 0 ≤ sizeLine; decide, fun l2 nl2 => ?_⟩
        have S2 := same_new (o := .tup []) nl2
        have hl2 : SqT K (upd H0 l2 (.tup [])) l2 [] := sqT_of upd_same
        generalize upd H0 l2 (.tup []) = H1 at S2 hl2 ⊢
        refine ⟨l2, true, rfl, hl2, hem.keep (Keep.of (S0.trans S2)), _, rfl, iteT ?_⟩
        refine fun b dx nb nd ne => ?_
        have S1 : Same H1 (upd (upd H1 dx (.own b)) b (.ins cBuilder dx [])) := same_upd2 nb (same_new nd)
        have hb : upd (upd H1 dx (.own b)) b (.ins cBuilder dx []) b = some (.ins cBuilder dx []) := upd_same
        generalize upd (upd H1 dx (.own b)) b (.ins cBuilder dx []) = H2 at S1 hb ⊢
        refine ⟨_, rfl, _, rfl, .non, .one, rfl, .one, rfl, by decide, fun a3 H3 s3 y3 => ?_⟩
        refine ⟨b, dx, _, _, none, 0, rfl, by decide, s3 _ _ hb, .inl ⟨rfl, rfl⟩, (fun t e => by cases e), by decide, y3, fun a4 H4 s4 y4 => ?_⟩
        refine ⟨_, some .one, rfl, .inr ⟨_, rfl, y4⟩, by decide, fun u H5 s5 z => ?_⟩
        rcases z with ⟨e, _⟩ | ⟨t', e, z⟩
        · cases e
        · cases e
          exact qb rfl rfl u H5 (S0.trans (S2.trans (S1.trans (s3.trans (s4.trans s5))))) z
      · refine ⟨_, rfl, _, rfl, x, 0, n, rfl, (Keep.of S0).ty ty, hn, fun ⟨i, e, h1, h2⟩ => (hx (by rw [e, show i = 0 by omega])).elim, fun _ => qa rfl hx H0 S0⟩
    | false =>
      refine ⟨l, false, rfl, hl, hem.keep (Keep.of S0), _, rfl, iteF ?_⟩
      refine ⟨_, rfl, v, t, rfl, r.keep (Keep.of S0), fun g bt => ?_, fun ng => q1 rfl ng H0 S0, fun g bt => q2 rfl g bt H0 S0⟩
      refine ⟨_, rfl, _, rfl, x, _, n, rfl, (Keep.of S0).ty ty, hn, fun hc => ?_, fun nc => q3 rfl g bt nc H0 S0⟩
      refine ⟨_, rfl, rfl, _, rfl, ?_⟩
      by_cases c : t.wid = 20000
      · rw [decide_eq_true (show V.int (t.wid : Int) = V.int 20000 by rw [c]; rfl)]
        exact iteT (q4 rfl g bt hc c H0 S0)
      · rw [decide_eq_false (show ¬ V.int (t.wid : Int) = V.int 20000 from fun z => c (by have := V.int.inj z; omega))]
        refine iteF ?_
        obtain ⟨i, rfl, i0, i1⟩ := hc
        obtain ⟨m, rfl⟩ : ∃ m : Nat, i = m := ⟨i.toNat, by omega⟩
        have q5 := q5 rfl g bt m rfl (by omega) c
        have hh := bal_hgt bt g.2.2
        refine ⟨_, rfl, by show 0 ≤ sizeLine; decide, fun l2 nl2 => ?_⟩
        have S2 := same_new (o := .tup []) nl2
        have hl2 : SqT K (upd H0 l2 (.tup [])) l2 [] := sqT_of upd_same
        generalize upd H0 l2 (.tup []) = H1 at S2 hl2 ⊢
        refine ⟨l2, false, rfl, hl2, hem.keep (Keep.of (S0.trans S2)), _, rfl, iteF ?_⟩
        refine ⟨_, rfl, v, t, rfl, r.keep (Keep.of (S0.trans S2)), g.1, by omega, fun a2 H2 s2 y1 => ?_⟩
        refine fun b dx nb nd ne => ?_
        have S1 : Same H2 (upd (upd H2 dx (.own b)) b (.ins cBuilder dx [])) := same_upd2 nb (same_new nd)
        have hb : upd (upd H2 dx (.own b)) b (.ins cBuilder dx []) b = some (.ins cBuilder dx []) := upd_same
        generalize upd (upd H2 dx (.own b)) b (.ins cBuilder dx []) = H3 at S1 hb ⊢
        refine ⟨_, rfl, _, rfl, .non, .one, rfl, .one, rfl, by decide, fun a3 H4 s3 y3 => ?_⟩
        obtain ⟨w1, w2, w3, w4⟩ := withT_ok (p := m) bt
        refine ⟨b, dx, _, _, some t, m, rfl, by decide, s3 _ _ hb, .inr ⟨t, rfl, (y1.same S1).same s3⟩, (fun t' e => by cases e; exact bt), (show t.hgt < 22 by omega), y3, fun a4 H5 s4 y4 => ?_⟩
        refine ⟨_, some (withT t m), rfl, .inr ⟨_, rfl, y4⟩, (show (withT t m).hgt < 51 by omega), fun u H6 s5 z => ?_⟩
        rcases z with ⟨e, _⟩ | ⟨t', e, z⟩
        · cases e
        · cases e
          exact q5 u H6 (S0.trans (S2.trans (s2.trans (S1.trans (s3.trans (s4.trans s5)))))) z
end

section
variable {P : Program} {w : World} {K : PySem.W.Frag} {mg : Str → Option Value} {base : Heap} {cMatchError cBadShape cBadCount cBadBalance cStem cBuilder : Addr}
def spLRefused (K : PySem.W.Frag) : Sp := fun vs H Q _ => ∃ v t em, ∃ door : Nat, vs = [.int door, v] ∧ RepTh K H v t ∧ EmpQ K H v em ∧ ¬ t.good ∧ door < 8 ∧ (door = 7 → em = false) ∧ ∀ H', Same H H' → Q (.bl true) H'
theorem ok__law_refused (T : Top K mg cMatchError cBadShape cBadCount cBadBalance cStem cBuilder) : Cl P w K mg base 78 "_law_refused" ["door", "thing"] (spLRefused K) := by
  have c_width_of := ok_width_of (P := P) (w := w) (base := base) T
  have c_height_of := ok_height_of (P := P) (w := w) (base := base) T
  have c_is_balanced := ok_is_balanced (P := P) (w := w) (base := base) T
  have c_joined_shapes := ok_joined_shapes (P := P) (w := w) (base := base) T
  have c_cut_shape := ok_cut_shape (P := P) (w := w) (base := base) T
  have c_taken_shape := ok_taken_shape (P := P) (w := w) (base := base) T
  have c_put_shape := ok_put_shape (P := P) (w := w) (base := base) T
  refine T.d__law_refused.ok sc__law_refused (fun vs H Q E h => ?_) (fun f cdv A outer s H vs Q E hr h => ?_)
  · obtain ⟨_, _, _, _, rfl, _⟩ := h
    rfl
  · refine ⟨_, (pss_cons (ps_set (i := 2) sc__law_refused.nd rfl (.inl rfl) pe_bl)
      (pss_cons (ps_try_only (c := .ref cBadShape)  rfl rfl ⟨rfl, by decide, .inl T.e_BadShape.g⟩ takes0 (fun W pn xe tk po => (pss_one (ps_if (pt_cmpR op_eq (pv 0) pe_int (nomark _)) (pss_one (ps_expr (pcS c_width_of hr (by decide) tk (pa_cons (pv 1) pa_nil)))) (pss_one (ps_if (pt_cmpR op_eq (pv 0) pe_int (nomark _)) (pss_one (ps_expr (pcS c_height_of hr (by decide) tk (pa_cons (pv 1) pa_nil)))) (pss_one (ps_if (pt_cmpR op_eq (pv 0) pe_int (nomark _)) (pss_one (ps_expr (pcS c_is_balanced hr (by decide) tk (pa_cons (pv 1) pa_nil)))) (pss_one (ps_if (pt_cmpR op_eq (pv 0) pe_int (nomark _)) (pss_one (ps_expr (pcS c_joined_shapes hr (by decide) tk (pa_cons (pv 1) (pa_cons pe_non pa_nil))))) (pss_one (ps_if (pt_cmpR op_eq (pv 0) pe_int (nomark _)) (pss_one (ps_expr (pcS c_joined_shapes hr (by decide) tk (pa_cons (pe_tup (pa_cons pe_non (pa_cons pe_non pa_nil))) (pa_cons (pv 1) pa_nil))))) (pss_one (ps_if (pt_cmpR op_eq (pv 0) pe_int (nomark _)) (pss_one (ps_expr (pcS c_cut_shape hr (by decide) tk (pa_cons (pv 1) (pa_cons pe_int pa_nil))))) (pss_one (ps_if (pt_cmpR op_eq (pv 0) pe_int (nomark _)) (pss_one (ps_expr (pcS c_taken_shape hr (by decide) tk (pa_cons (pv 1) (pa_cons pe_int pa_nil))))) (pss_one (ps_expr (pcS c_put_shape hr (by decide) tk (pa_cons (pv 1) (pa_cons pe_int pa_nil)))))))))))))))))))) (fun a oe cls d pn _ _ => (pss_one (ps_set (i := 2) sc__law_refused.nd rfl (.inl rfl) pe_bl))))
      (pss_one (ps_ret (pv 2))))), ?_⟩
    obtain ⟨v, t, em, door, rfl, r, he, ng, hd, h7, q⟩ := h
    refine ⟨_, rfl, rfl, _, rfl, ?_⟩
    rcases (by omega : door = 0 ∨ door = 1 ∨ door = 2 ∨ door = 3 ∨ door = 4 ∨ door = 5 ∨ door = 6 ∨ door = 7) with rfl | rfl | rfl | rfl | rfl | rfl | rfl | rfl
    · refine iteT ?_
      exact ⟨_, rfl, v, t, rfl, r, fun g => (ng g).elim, fun _ => ⟨true, T.e_BadShape.m, fun _ a _ => ⟨_, rfl, q _ (Same.refl _)⟩, fun z => nomatch z⟩⟩
    · refine iteF ⟨_, rfl, rfl, _, rfl, iteT ?_⟩
      exact ⟨_, rfl, v, t, rfl, r, fun g => (ng g).elim, fun _ => ⟨true, T.e_BadShape.m, fun _ a _ => ⟨_, rfl, q _ (Same.refl _)⟩, fun z => nomatch z⟩⟩
    · refine iteF ⟨_, rfl, rfl, _, rfl, iteF ⟨_, rfl, rfl, _, rfl, iteT ?_⟩⟩
      exact ⟨_, rfl, v, t, rfl, r, fun g => (ng g).elim, fun _ => ⟨true, T.e_BadShape.m, fun _ a _ => ⟨_, rfl, q _ (Same.refl _)⟩, fun z => nomatch z⟩⟩
    · refine iteF ⟨_, rfl, rfl, _, rfl, iteF ⟨_, rfl, rfl, _, rfl, iteF ⟨_, rfl, rfl, _, rfl, iteT ?_⟩⟩⟩
      exact ⟨_, rfl, v, .non, t, .one, rfl, r, .one, fun _ => ⟨true, T.e_BadShape.m, fun _ a _ => ⟨_, rfl, q _ (Same.refl _)⟩, fun z => nomatch z⟩, fun g => (ng g).elim, fun g => (ng g).elim, fun g => (ng g).elim, fun g => (ng g).elim, fun g => (ng g).elim⟩
    · refine iteF ⟨_, rfl, rfl, _, rfl, iteF ⟨_, rfl, rfl, _, rfl, iteF ⟨_, rfl, rfl, _, rfl, iteF ⟨_, rfl, rfl, _, rfl, iteT ?_⟩⟩⟩⟩
      refine ⟨by show 2 ≤ sizeLine; decide, fun l nl => ?_⟩
      have S := same_new (o := .tup [.non, .non]) nl
      have g1 : (Th.pair .one .one).good := ⟨rfl, by decide, by decide⟩
      exact ⟨_, rfl, .ref l, v, .pair .one .one, t, rfl, .pair (sqT_of upd_same) .one .one, r.keep (Keep.of S), fun n => (n g1).elim, (fun _ z => absurd z (by decide)), fun _ _ _ => ⟨true, T.e_BadShape.m, fun _ a _ => ⟨_, rfl, q _ S⟩, fun z => nomatch z⟩, fun _ _ g => (ng g).elim, fun _ _ g => (ng g).elim, fun _ _ g => (ng g).elim⟩
    · refine iteF ⟨_, rfl, rfl, _, rfl, iteF ⟨_, rfl, rfl, _, rfl, iteF ⟨_, rfl, rfl, _, rfl, iteF ⟨_, rfl, rfl, _, rfl, iteF ⟨_, rfl, rfl, _, rfl, iteT ?_⟩⟩⟩⟩⟩
      exact ⟨_, rfl, v, .int 0, t, "int", rfl, r, ty_int _, by decide, fun _ => ⟨true, T.e_BadShape.m, fun _ a _ => ⟨_, rfl, q _ (Same.refl _)⟩, fun z => nomatch z⟩, fun g => (ng g).elim, fun g => (ng g).elim, fun g => (ng g).elim⟩
    · refine iteF ⟨_, rfl, rfl, _, rfl, iteF ⟨_, rfl, rfl, _, rfl, iteF ⟨_, rfl, rfl, _, rfl, iteF ⟨_, rfl, rfl, _, rfl, iteF ⟨_, rfl, rfl, _, rfl, iteF ⟨_, rfl, rfl, _, rfl, iteT ?_⟩⟩⟩⟩⟩⟩
      exact ⟨_, rfl, v, .int 0, "int", t, rfl, r, ty_int _, by decide, fun _ => ⟨true, T.e_BadShape.m, fun _ a _ => ⟨_, rfl, q _ (Same.refl _)⟩, fun z => nomatch z⟩, fun g => (ng g).elim, fun g => (ng g).elim, fun g => (ng g).elim⟩
    · have ee := h7 rfl
      subst ee
      refine iteF ⟨_, rfl, rfl, _, rfl, iteF ⟨_, rfl, rfl, _, rfl, iteF ⟨_, rfl, rfl, _, rfl, iteF ⟨_, rfl, rfl, _, rfl, iteF ⟨_, rfl, rfl, _, rfl, iteF ⟨_, rfl, rfl, _, rfl, iteF ?_⟩⟩⟩⟩⟩⟩
      exact ⟨_, rfl, v, .int 0, "int", false, t, rfl, r, he, ty_int _, by decide, (fun z => nomatch z), (fun z => nomatch z), fun _ _ H1 s1 => ⟨true, T.e_BadShape.m, fun _ a _ => ⟨_, rfl, q _ s1⟩, fun z => nomatch z⟩, fun _ g => (ng g).elim, fun _ g => (ng g).elim, fun _ g => (ng g).elim, fun _ g => (ng g).elim⟩
end

section
variable {P : Program} {w : World} {K : PySem.W.Frag} {mg : Str → Option Value} {base : Heap} {cMatchError cBadShape cBadCount cBadBalance cStem cBuilder : Addr}
/-- found is the integer j (due, an integer) -/
def spLInt (K : PySem.W.Frag) : Sp := fun vs H Q _ => ∃ i j : Int, vs = [.int i, .int j] ∧ Q (.bl (decide (i = j))) H
theorem ok__law_is_integer (T : Top K mg cMatchError cBadShape cBadCount cBadBalance cStem cBuilder) : Cl P w K mg base 1 "_law_is_integer" ["found", "due"] (spLInt K) := by
  refine T.d__law_is_integer.ok sc__law_is_integer (fun vs H Q E h => ?_) (fun f cdv A outer s H vs Q E hr h => ?_)
  · obtain ⟨i, j, rfl, _⟩ := h
    rfl
  · refine ⟨_, (pss_one (ps_ret (pe_and (pe_callB call_isi (by rfl) T.n_isinstance (by decide +kernel) (pa_cons (pv 0) (pa_cons (pe_bltn (v := .ty "int") (by rfl) T.n_int (by decide +kernel) rfl) pa_nil))) (pe_and (pe_not (pe_callB call_isi (by rfl) T.n_isinstance (by decide +kernel) (pa_cons (pv 0) (pa_cons (pe_bltn (v := .ty "bool") (by rfl) T.n_bool (by decide +kernel) rfl) pa_nil)))) (pe_one (pe_cmpR op_eq (pv 0) (pv 1) (nomark _))))))), ?_⟩
    obtain ⟨i, j, rfl, q⟩ := h
    refine ⟨_, rfl, _, _, _, _, _, rfl, .ty "int", ty_int i, kit_ty (r := true) (by decide +kernel), _, rfl, iteT ?_⟩
    refine ⟨_, rfl, _, _, _, _, _, rfl, .ty "bool", ty_int i, kit_ty (r := false) (by decide +kernel), _, rfl, _, rfl, iteT ?_⟩
    refine ⟨_, rfl, _, rfl, rfl, ?_⟩
    have e : decide (V.int i = V.int j) = decide (i = j) := by
      by_cases h : i = j
      · rw [h, decide_eq_true rfl, decide_eq_true rfl]
      · rw [decide_eq_false h, decide_eq_false (fun z => h (V.int.inj z))]
    rw [e]
    exact q
end

section
variable {P : Program} {w : World} {K : PySem.W.Frag} {mg : Str → Option Value} {base : Heap} {cMatchError cBadShape cBadCount cBadBalance cStem cBuilder : Addr}
def spLRight (K : PySem.W.Frag) : Sp := fun vs H Q _ => ∃ u d t, vs = [u, d] ∧ ThAt K H u d t ∧ ∀ H', Same H H' → Q (.bl true) H'
theorem ok__law_right (T : Top K mg cMatchError cBadShape cBadCount cBadBalance cStem cBuilder) : Cl P w K mg base 80 "_law_right" ["thing", "due"] (spLRight K) := by
  have c_is_shape := ok_is_shape (P := P) (w := w) (base := base) T
  have c__law_refused := ok__law_refused (P := P) (w := w) (base := base) T
  have c__law_is_integer := ok__law_is_integer (P := P) (w := w) (base := base) T
  have c_width_of := ok_width_of (P := P) (w := w) (base := base) T
  have c_height_of := ok_height_of (P := P) (w := w) (base := base) T
  have c_is_balanced := ok_is_balanced (P := P) (w := w) (base := base) T
  refine T.d__law_right.ok sc__law_right (fun vs H Q E h => ?_) (fun f cdv A outer s H vs Q E hr h => ?_)
  · obtain ⟨_, _, _, rfl, _⟩ := h
    rfl
  · refine ⟨_, (pss_cons (ps_set (i := 2) sc__law_right.nd rfl (.inl rfl) (pcN c_is_shape hr (by decide) (pa_cons (pv 0) pa_nil)))
      (pss_cons (ps_if (PW.pt (pw_or (pt_not (pt_val (pe_callB call_isi (by rfl) T.n_isinstance (by decide +kernel) (pa_cons (pv 2) (pa_cons (pe_bltn (v := .ty "bool") (by rfl) T.n_bool (by decide +kernel) rfl) pa_nil))))) (pw_or1 (pt_cmpR op_ne (pv 2) (pe_cmpR op_notN (pv 1) pe_non (nomark _)) (nomark _))))) (pss_one (ps_ret pe_bl)) pss_nil)
      (pss_cons (ps_if (pt_cmpR op_isN (pv 1) pe_non (nomark _)) (pss_one (ps_ret (pe_callB (cr_all rfl) (by rfl) T.n_all (by decide +kernel) (pa_cons (pe_lc (own := [("door", 4)]) (g := gName 4) (tt := tYes) (by rfl) sc__law_right.nd (pi_range1 (by rfl) T.n_range (pa_cons (pe_ifExp (pt_cmpR (op_eqE hr.units) (pv 0) (pe_tup pa_nil) (nomark _)) pe_int pe_int) pa_nil)) (blkOk_by (own := [("door", 4)]) (N := nm__law_right) (sc := defScope s__law_right) (by decide +kernel)) (fun _ _ _ _ _ => (pg_name (i := 4) sc__law_right.nd rfl (.inl rfl))) (fun _ _ _ _ _ => pts_nil) (fun _ _ _ _ _ => (pcN c__law_refused hr (by decide) (pa_cons (pv 4) (pa_cons (pv 0) pa_nil))))) pa_nil)))) pss_nil)
      (pss_cons (ps_if (PW.pt (pw_or (pt_not (pt_val (pcN c__law_is_integer hr (by decide) (pa_cons (pcN c_width_of hr (by decide) (pa_cons (pv 0) pa_nil)) (pa_cons (pe_ix ix_tup (pv 1) pe_int (fun _ _ => rfl)) pa_nil))))) (pw_or1 (pt_not (pt_val (pcN c__law_is_integer hr (by decide) (pa_cons (pcN c_height_of hr (by decide) (pa_cons (pv 0) pa_nil)) (pa_cons (pe_ix ix_tup (pv 1) pe_int (fun _ _ => rfl)) pa_nil)))))))) (pss_one (ps_ret pe_bl)) pss_nil)
      (pss_cons (ps_set (i := 3) sc__law_right.nd rfl (.inl rfl) (pcN c_is_balanced hr (by decide) (pa_cons (pv 0) pa_nil)))
      (pss_one (ps_ret (pe_and (pe_callB call_isi (by rfl) T.n_isinstance (by decide +kernel) (pa_cons (pv 3) (pa_cons (pe_bltn (v := .ty "bool") (by rfl) T.n_bool (by decide +kernel) rfl) pa_nil))) (pe_one (pe_cmpR op_eq (pv 3) (pe_ix ix_tup (pv 1) pe_int (fun _ _ => rfl)) (nomark _))))))))))), ?_⟩
    obtain ⟨u, d, t, rfl, ⟨r, ⟨em, he⟩, D⟩, q⟩ := h
    refine ⟨_, rfl, u, t, rfl, r, ?_⟩
    have ll : ∀ z, z < 200 → z ≤ sizeLine := fun z h => Nat.le_trans (Nat.le_of_lt h) (by decide)
    refine ⟨_, rfl, _, _, _, _, _, rfl, .ty "bool", ty_bl _, kit_ty (r := true) (by decide +kernel), _, rfl, iteF ?_⟩
    rcases D with ⟨ng, rfl⟩ | ⟨g, b, rfl, hb⟩
    · rw [decide_eq_false ng]
      refine ⟨_, rfl, _, rfl, rfl, rfl, _, rfl, iteF ?_⟩
      refine ⟨_, rfl, rfl, _, rfl, iteT ?_⟩
      refine ⟨_, rfl, ll 0 (by decide), fun l nl => ?_⟩
      have S0 := same_new (o := .tup []) nl
      have hl : SqT K (upd H l (.tup [])) l [] := sqT_of upd_same
      generalize upd H l (.tup []) = H0 at S0 hl ⊢
      have r0 := r.keep (Keep.of S0)
      have he0 := he.keep (Keep.of S0)
      have turn : ∀ (D : Addr) (nD : H0 D = none) (n i : Nat) (H' : Hp), i < n → n ≤ 8 → (n = 8 → em = false) → Mk H0 D (List.replicate i (V.bl true)) H' → spLRefused K [.int (0 + (i : Int)), u] H' (fun y H4 => ∃ acc, H4 D = some (.lst acc) ∧ acc.length < sizeLine ∧ Mk H0 D (List.replicate (i + 1) (V.bl true)) (upd H4 D (.lst (acc ++ [y])))) E0 := fun D nD n i H' hi hn h8 M => by
        refine ⟨u, t, em, i, congrArg (fun z => [V.int z, u]) (by omega : (0 : Int) + (i : Int) = (i : Int)), r0.keep M.keep, he0.keep M.keep, ng, by omega, fun h => h8 (by omega), fun H4 s4 => ?_⟩
        have M4 := M.next s4
        refine ⟨_, M4.at_, Nat.lt_of_lt_of_le (show (List.replicate i (V.bl true)).length < 30 by rw [List.length_replicate]; omega) (by decide), ?_⟩
        rw [List.replicate_succ']
        exact M4.push nD _
      have all_ : ∀ (D : Addr) (n : Nat) (H' : Hp), Mk H0 D (List.replicate n (V.bl true)) H' → ∃ (a : Addr) (bs : List Bool), [V.ref D] = [V.ref a] ∧ SqL K H' a (bs.map V.bl) ∧ Q (.bl (bs.all id)) H' := fun D n H' M => by
        refine ⟨D, List.replicate n true, rfl, sqL_of (by rw [List.map_replicate]; exact M.at_), ?_⟩
        have e : (List.replicate n true).all id = true := by simp
        rw [e]
        exact q H' (S0.trans M.same)
      cases em with
      | true =>
        refine ⟨l, true, rfl, hl, he0, _, rfl, iteT ?_⟩
        refine ⟨_, rfl, by omega, by omega, fun D nD => lc_range (lo := 0) (n := (7 : Int).toNat) (fun i H' => Mk H0 D (List.replicate i (V.bl true)) H') (Mk.start nD) ?_ ?_⟩
        · intro i H' hi M
          exact ⟨rfl, iteT (B := True) ⟨_, rfl, _, rfl, turn D nD 7 i H' hi (by decide) (fun z => by cases z) M⟩⟩
        · intro H' M
          exact all_ D 7 H' M
      | false =>
        refine ⟨l, false, rfl, hl, he0, _, rfl, iteF ?_⟩
        refine ⟨_, rfl, by omega, by omega, fun D nD => lc_range (lo := 0) (n := (8 : Int).toNat) (fun i H' => Mk H0 D (List.replicate i (V.bl true)) H') (Mk.start nD) ?_ ?_⟩
        · intro i H' hi M
          exact ⟨rfl, iteT (B := True) ⟨_, rfl, _, rfl, turn D nD 8 i H' hi (by decide) (fun _ => rfl) M⟩⟩
        · intro H' M
          exact all_ D 8 H' M
    · rw [decide_eq_true g]
      refine ⟨_, rfl, _, rfl, rfl, rfl, _, rfl, iteF ?_⟩
      refine ⟨_, rfl, rfl, _, rfl, iteF ?_⟩
      refine ⟨_, rfl, u, t, rfl, r, fun _ => ?_, fun z => (z g).elim⟩
      refine ⟨_, rfl, b, _, _, _, rfl, rfl, hb, atI_nat (j := 0) rfl, _, _, rfl, _, rfl, ?_⟩
      rw [decide_eq_true rfl]
      refine iteF ?_
      refine ⟨_, rfl, u, t, rfl, r, fun _ => ?_, fun z => (z g).elim⟩
      refine ⟨_, rfl, b, _, _, _, rfl, rfl, hb, atI_nat (j := 1) rfl, _, _, rfl, _, rfl, ?_⟩
      rw [decide_eq_true rfl]
      refine iteF ?_
      refine ⟨_, rfl, u, t, rfl, r, fun _ => ?_, fun z => (z g).elim⟩
      refine ⟨_, rfl, _, _, _, _, _, rfl, .ty "bool", ty_bl _, kit_ty (r := true) (by decide +kernel), _, rfl, iteT ?_⟩
      refine ⟨_, rfl, _, rfl, b, _, _, _, rfl, rfl, hb, atI_nat (j := 2) rfl, rfl, ?_⟩
      rw [decide_eq_true rfl]
      exact q H (Same.refl _)
end

section
variable {P : Program} {w : World} {K : PySem.W.Frag} {mg : Str → Option Value} {base : Heap} {cMatchError cBadShape cBadCount cBadBalance cStem cBuilder : Addr}
def spLaw (K : PySem.W.Frag) : Sp := fun vs H Q _ => ∃ (a : Addr) (ns : List Int), vs = [.ref a] ∧ SqL K H a (ns.map V.int) ∧ ns.length ≤ 63 ∧ (∀ z ∈ ns, z.natAbs.log2 ≤ 1048576) ∧ ∀ H', Q (.bl true) H'
theorem ok_law {fa : Addr} {fd : FuncData} (F : Fun K "law" "law" s_law fa fd) (T : Top K mg cMatchError cBadShape cBadCount cBadBalance cStem cBuilder) : FnOk P w K mg base (L2.CX P w) 82 fa fd ["script"] (spLaw K) := by
  have c__law_feed := ok__law_feed (P := P) (w := w) (base := base) T
  have c__law_thing := ok__law_thing (P := P) (w := w) (base := base) T
  have c__law_right := ok__law_right (P := P) (w := w) (base := base) T
  refine F.okX sc_law (fun vs H Q E h => ?_) (fun cdv A outer s H vs Q E hr h => ?_)
  · obtain ⟨a, ns, rfl, _⟩ := h
    rfl
  · have f := fa
    refine ⟨_, (pss_cons (ps_for (passes_of rfl) rfl (pi_range1 (by rfl) T.n_range (pa_cons (pe_callB (call_max2 rfl) (by rfl) T.n_max (by decide +kernel) (pa_cons pe_int (pa_cons (pe_callB (call_min2 rfl) (by rfl) T.n_min (by decide +kernel) (pa_cons pe_int (pa_cons (pe_callB call_len_seq (by rfl) T.n_len (by decide +kernel) (pa_cons (pv 0) pa_nil)) pa_nil))) pa_nil))) pa_nil)) (pg_name (i := 1) sc_law.nd rfl (.inl rfl)) (pss_cons (ps_asg (pcN c__law_thing hr (by decide) (pa_cons (pcN c__law_feed hr (by decide) (pa_cons (pv 0) (pa_cons (pv 1) pa_nil))) (pa_cons (pe_cmpR op_eq (pv 1) pe_int (nomark _)) pa_nil))) (pg_tup rfl (pgs_cons (pg_name (i := 2) sc_law.nd rfl (.inl rfl)) (pgs_cons (pg_name (i := 3) sc_law.nd rfl (.inl rfl)) pgs_nil))))
      (pss_one (ps_if (pt_not (pt_val (pcN c__law_right hr (by decide) (pa_cons (pv 2) (pa_cons (pv 3) pa_nil))))) (pss_one (ps_ret pe_bl)) pss_nil))))
      (pss_one (ps_ret pe_bl))), ?_⟩
    obtain ⟨a, ns, rfl, hS, hlen, hb, q⟩ := h
    refine ⟨_, rfl, a, ns.map V.int, rfl, .inl hS, _, _, rfl, _, _, rfl, ?_⟩
    have j63 : ∀ L : Int, (if (if L < 63 then L else 63) > 3 then (if L < 63 then L else 63) else 3) ≤ 63 ∧ 0 ≤ (if (if L < 63 then L else 63) > 3 then (if L < 63 then L else 63) else 3) := fun L => by
      constructor <;> split <;> split <;> omega
    have jj := j63 ((ns.map V.int).length : Int)
    refine ⟨_, rfl, (by show -(2 ^ 62 : Int) ≤ (if _ > _ then _ else _); exact Int.le_trans (by decide) jj.2), (by show (if _ > _ then _ else _) < (2 ^ 62 : Int); exact Int.lt_of_le_of_lt jj.1 (by decide)),
      for_range (lo := 0) (fun i σ H' => Same H H' ∧ ∃ x1 x2 x3, σ = [some (.ref a), x1, x2, x3]) ⟨Same.refl _, none, none, none, rfl⟩ ?_ ?_⟩
    · rintro i σ H0 hi ⟨s0, x1, x2, x3, rfl⟩
      have hi2 : (i : Int) < 63 := by
        have h1 : i < (if (if ((ns.map V.int).length : Int) < 63 then ((ns.map V.int).length : Int) else 63) > 3 then (if ((ns.map V.int).length : Int) < 63 then ((ns.map V.int).length : Int) else 63) else 3).toNat := hi
        omega
      refine ⟨_, rfl, _, rfl, a, ns, 0 + (i : Int), rfl, s0.seq hS, hb, by omega, by omega, fun H1 p s1 np F1 => ?_⟩
      refine ⟨_, rfl, rfl, p, 0, _, rfl, F1, by decide, fun H2 c u d t b2 hT Th2 => ?_⟩
      refine ⟨c, _, rfl, hT, rfl, _, _, rfl, _, _, rfl, rfl, ?_⟩
      refine ⟨_, rfl, _, rfl, u, d, t, rfl, Th2, fun H3 s3 => ⟨_, rfl, iteF ?_⟩⟩
      exact ⟨(Same.but (s0.trans s1) (s0.free np) b2).trans s3, _, _, _, rfl⟩
    · rintro σ H' ⟨sm, x1, x2, x3, rfl⟩
      exact q _
end

end EM
open PySem PySem.W PyProof.Rows
set_option maxRecDepth 100000 in
set_option maxHeartbeats 0 in
theorem PySem.Challenge.cw_everymatch_k59_shapes_and_near_ones_holds : PySem.Challenge.rw_everymatch_k59_shapes_and_near_ones.Holds := by
  w_on; o_law; k_head; (case hw => w_witness2)
  k_fill
  refine L2.walk_ofB (l := PySem.Challenge.rw_everymatch_k59_shapes_and_near_ones) (n := 63) (k := 82) (x := "script") (CX := fun w => L2.CX PySem.Challenge.rw_everymatch_k59_shapes_and_near_ones.prog w) (sp := fun w => EM.spLaw _) rfl (by decide) rfl ⟨rfl, by decide, by decide⟩ (fun w h Y => PySem.W.kIn_of Y) ?F (fun _ _ a ns hl hb _ hS => ⟨a, ns, rfl, hS, hl, fun z hz => EM.bits_log2 (hb z hz), fun _ => rfl⟩) (fun _ _ _ _ _ h => EM.cx_none h)
  case F =>
    intro w mg fa h KX G hmg
    refine' EM.law_mk KX G hmg ?al ?ll ?cl ?kl (fun s v => .of_eq rfl) (fun base fd F => EM.ok_law F (EM.Top.mk (EM.defAt_mk KX G ?a1 ?l2 ?c3 ?k4 (fun _ _ _ _ _ _ us hl => match us, hl with | [_], _ => rfl))
        (EM.defAtD_mk 1 (by intro z; cases z) rfl KX G ?a5 ?l6 ?c7 ?k8 ?t9 (.cons rfl .nil) (fun j hj T kV doc pm an cdv ct us its h1 h2 => by
      rcases hj with rfl | rfl
      · match us, its, h1, h2 with
        | [_], [_], _, _ => exact ⟨_, rfl, rfl⟩
      · match us, its, h1, h2 with
        | [_, _], [_], _, _ => exact ⟨_, rfl, rfl⟩))
        (EM.defAt_mk KX G ?a10 ?l11 ?c12 ?k13 (fun _ _ _ _ _ _ us hl => match us, hl with | [_, _], _ => rfl))
        (EM.defAt_mk KX G ?a14 ?l15 ?c16 ?k17 (fun _ _ _ _ _ _ us hl => match us, hl with | [_], _ => rfl))
        (EM.defAt_mk KX G ?a18 ?l19 ?c20 ?k21 (fun _ _ _ _ _ _ us hl => match us, hl with | [_], _ => rfl))
        (EM.defAt_mk KX G ?a22 ?l23 ?c24 ?k25 (fun _ _ _ _ _ _ us hl => match us, hl with | [_], _ => rfl))
        (EM.defAt_mk KX G ?a26 ?l27 ?c28 ?k29 (fun _ _ _ _ _ _ us hl => match us, hl with | [_], _ => rfl))
        (EM.defAt_mk KX G ?a30 ?l31 ?c32 ?k33 (fun _ _ _ _ _ _ us hl => match us, hl with | [_, _, _], _ => rfl))
        (EM.defAt_mk KX G ?a34 ?l35 ?c36 ?k37 (fun _ _ _ _ _ _ us hl => match us, hl with | [_, _, _], _ => rfl))
        (EM.defAt_mk KX G ?a38 ?l39 ?c40 ?k41 (fun _ _ _ _ _ _ us hl => match us, hl with | [_, _, _], _ => rfl))
        (EM.defAt_mk KX G ?a42 ?l43 ?c44 ?k45 (fun _ _ _ _ _ _ us hl => match us, hl with | [_, _, _, _], _ => rfl))
        (EM.defAt_mk KX G ?a46 ?l47 ?c48 ?k49 (fun _ _ _ _ _ _ us hl => match us, hl with | [_, _, _], _ => rfl))
        (EM.defAt_mk KX G ?a50 ?l51 ?c52 ?k53 (fun _ _ _ _ _ _ us hl => match us, hl with | [_], _ => rfl))
        (EM.defAt_mk KX G ?a54 ?l55 ?c56 ?k57 (fun _ _ _ _ _ _ us hl => match us, hl with | [_], _ => rfl))
        (EM.defAt_mk KX G ?a58 ?l59 ?c60 ?k61 (fun _ _ _ _ _ _ us hl => match us, hl with | [_], _ => rfl))
        (EM.defAt_mk KX G ?a62 ?l63 ?c64 ?k65 (fun _ _ _ _ _ _ us hl => match us, hl with | [_], _ => rfl))
        (EM.defAt_mk KX G ?a66 ?l67 ?c68 ?k69 (fun _ _ _ _ _ _ us hl => match us, hl with | [_], _ => rfl))
        (EM.defAt_mk KX G ?a70 ?l71 ?c72 ?k73 (fun _ _ _ _ _ _ us hl => match us, hl with | [_], _ => rfl))
        (EM.defAt_mk KX G ?a74 ?l75 ?c76 ?k77 (fun _ _ _ _ _ _ us hl => match us, hl with | [_, _], _ => rfl))
        (EM.defAt_mk KX G ?a78 ?l79 ?c80 ?k81 (fun _ _ _ _ _ _ us hl => match us, hl with | [_, _], _ => rfl))
        (EM.defAt_mk KX G ?a82 ?l83 ?c84 ?k85 (fun _ _ _ _ _ _ us hl => match us, hl with | [_, _], _ => rfl))
        (EM.defAt_mk KX G ?a86 ?l87 ?c88 ?k89 (fun _ _ _ _ _ _ us hl => match us, hl with | [_, _], _ => rfl))
        (EM.defAt_mk KX G ?a90 ?l91 ?c92 ?k93 (fun _ _ _ _ _ _ us hl => match us, hl with | [_, _], _ => rfl))
        (EM.defAt_mk KX G ?a94 ?l95 ?c96 ?k97 (fun _ _ _ _ _ _ us hl => match us, hl with | [_, _], _ => rfl))
        (EM.defAt_mk KX G ?a98 ?l99 ?c100 ?k101 (fun _ _ _ _ _ _ us hl => match us, hl with | [_, _], _ => rfl))
        (EM.defAt_mk KX G ?a102 ?l103 ?c104 ?k105 (fun _ _ _ _ _ _ us hl => match us, hl with | [_, _], _ => rfl))
        (EM.defAt_mk KX G ?a106 ?l107 ?c108 ?k109 (fun _ _ _ _ _ _ us hl => match us, hl with | [_, _, _], _ => rfl))
        (EM.defAt_mk KX G ?a110 ?l111 ?c112 ?k113 (fun _ _ _ _ _ _ us hl => match us, hl with | [_, _], _ => rfl))
        (EM.defAt_mk KX G ?a114 ?l115 ?c116 ?k117 (fun _ _ _ _ _ _ us hl => match us, hl with | [_, _], _ => rfl))
        (EM.defAt_mk KX G ?a118 ?l119 ?c120 ?k121 (fun _ _ _ _ _ _ us hl => match us, hl with | [_], _ => rfl))
        (EM.defAt_mk KX G ?a122 ?l123 ?c124 ?k125 (fun _ _ _ _ _ _ us hl => match us, hl with | [_, _], _ => rfl))
        (EM.defAt_mk KX G ?a126 ?l127 ?c128 ?k129 (fun _ _ _ _ _ _ us hl => match us, hl with | [_, _], _ => rfl))
        (EM.defAt_mk KX G ?a130 ?l131 ?c132 ?k133 (fun _ _ _ _ _ _ us hl => match us, hl with | [_, _], _ => rfl))
        (EM.defAt_mk KX G ?a134 ?l135 ?c136 ?k137 (fun _ _ _ _ _ _ us hl => match us, hl with | [_, _], _ => rfl))
        (PySem.W.mg_none_of KX G ?z138)
        (PySem.W.mg_none_of KX G ?z139)
        (PySem.W.mg_none_of KX G ?z140)
        (PySem.W.mg_none_of KX G ?z141)
        (PySem.W.mg_none_of KX G ?z142)
        (PySem.W.mg_none_of KX G ?z143)
        (PySem.W.mg_none_of KX G ?z144)
        (PySem.W.mg_none_of KX G ?z145)
        (PySem.W.mg_none_of KX G ?z146)
        (PySem.W.mg_none_of KX G ?z147)
        (PySem.W.mg_none_of KX G ?z148)
        (PySem.W.mg_none_of KX G ?z149)
        (EM.con_mk KX G ?v150 ?r151)
        (EM.con_mk KX G ?v152 ?r153)
        (EM.excAt_mk KX G ?e154 ?x155 ?k156 ?b157 ?y158 ?i159 ?s160)
        (EM.excAt_mk KX G ?e161 ?x162 ?k163 ?b164 ?y165 ?i166 ?s167)
        (EM.excAt_mk KX G ?e168 ?x169 ?k170 ?b171 ?y172 ?i173 ?s174)
        (EM.excAt_mk KX G ?e175 ?x176 ?k177 ?b178 ?y179 ?i180 ?s181)
        (EM.clsAt_mk KX G ?a182 ?pg183 ?hd184 ?po185 ?sa186 ?mk187 ?kc188 (EM.no_cons ?na189 (EM.no_cons ?na190 (EM.no_cons ?na191 (EM.no_cons ?na192 EM.no_nil)))))
        (EM.clsAt_mk KX G ?a193 ?pg194 ?hd195 ?po196 ?sa197 ?mk198 ?kc199 EM.no_nil)
        (EM.bareAt_mk ?oi200)
        (EM.methAt_mk (st := EM.s_Stem_init) ?a201 ?i202 ?l203 ?c204 ?k205 (fun _ _ _ _ _ _ us hl => match us, hl with | [_, _, _], _ => rfl))
        (EM.methAt_mk (st := EM.s_Builder_pair) ?a206 ?i207 ?l208 ?c209 ?k210 (fun _ _ _ _ _ _ us hl => match us, hl with | [_, _, _], _ => rfl))
        (EM.methAt_mk (st := EM.s_Builder_sides) ?a211 ?i212 ?l213 ?c214 ?k215 (fun _ _ _ _ _ _ us hl => match us, hl with | [_, _], _ => rfl))))
    (case a1 => k_is); (case l2 => k_is); (case c3 => k_is); (case k4 => k_is); (case a5 => k_is); (case l6 => k_is)
    (case c7 => k_is); (case k8 => k_is); (case t9 => k_is); (case a10 => k_is); (case l11 => k_is); (case c12 => k_is)
    (case k13 => k_is); (case a14 => k_is); (case l15 => k_is); (case c16 => k_is); (case k17 => k_is); (case a18 => k_is)
    (case l19 => k_is); (case c20 => k_is); (case k21 => k_is); (case a22 => k_is); (case l23 => k_is); (case c24 => k_is)
    (case k25 => k_is); (case a26 => k_is); (case l27 => k_is); (case c28 => k_is); (case k29 => k_is); (case a30 => k_is)
    (case l31 => k_is); (case c32 => k_is); (case k33 => k_is); (case a34 => k_is); (case l35 => k_is); (case c36 => k_is)
    (case k37 => k_is); (case a38 => k_is); (case l39 => k_is); (case c40 => k_is); (case k41 => k_is); (case a42 => k_is)
    (case l43 => k_is); (case c44 => k_is); (case k45 => k_is); (case a46 => k_is); (case l47 => k_is); (case c48 => k_is)
    (case k49 => k_is); (case a50 => k_is); (case l51 => k_is); (case c52 => k_is); (case k53 => k_is); (case a54 => k_is)
    (case l55 => k_is); (case c56 => k_is); (case k57 => k_is); (case a58 => k_is); (case l59 => k_is); (case c60 => k_is)
    (case k61 => k_is); (case a62 => k_is); (case l63 => k_is); (case c64 => k_is); (case k65 => k_is); (case a66 => k_is)
    (case l67 => k_is); (case c68 => k_is); (case k69 => k_is); (case a70 => k_is); (case l71 => k_is); (case c72 => k_is)
    (case k73 => k_is); (case a74 => k_is); (case l75 => k_is); (case c76 => k_is); (case k77 => k_is); (case a78 => k_is)
    (case l79 => k_is); (case c80 => k_is); (case k81 => k_is); (case a82 => k_is); (case l83 => k_is); (case c84 => k_is)
    (case k85 => k_is); (case a86 => k_is); (case l87 => k_is); (case c88 => k_is); (case k89 => k_is); (case a90 => k_is)
    (case l91 => k_is); (case c92 => k_is); (case k93 => k_is); (case a94 => k_is); (case l95 => k_is); (case c96 => k_is)
    (case k97 => k_is); (case a98 => k_is); (case l99 => k_is); (case c100 => k_is); (case k101 => k_is); (case a102 => k_is)
    (case l103 => k_is); (case c104 => k_is); (case k105 => k_is); (case a106 => k_is); (case l107 => k_is); (case c108 => k_is)
    (case k109 => k_is); (case a110 => k_is); (case l111 => k_is); (case c112 => k_is); (case k113 => k_is); (case a114 => k_is)
    (case l115 => k_is); (case c116 => k_is); (case k117 => k_is); (case a118 => k_is); (case l119 => k_is); (case c120 => k_is)
    (case k121 => k_is); (case a122 => k_is); (case l123 => k_is); (case c124 => k_is); (case k125 => k_is); (case a126 => k_is)
    (case l127 => k_is); (case c128 => k_is); (case k129 => k_is); (case a130 => k_is); (case l131 => k_is); (case c132 => k_is)
    (case k133 => k_is); (case a134 => k_is); (case l135 => k_is); (case c136 => k_is); (case k137 => k_is); (case z138 => k_is)
    (case z139 => k_is); (case z140 => k_is); (case z141 => k_is); (case z142 => k_is); (case z143 => k_is); (case z144 => k_is)
    (case z145 => k_is); (case z146 => k_is); (case z147 => k_is); (case z148 => k_is); (case z149 => k_is); (case v150 => k_is)
    (case r151 => exact ⟨_, rfl⟩); (case v152 => k_is); (case r153 => exact ⟨_, rfl⟩); (case e154 => k_is); (case x155 => k_exc); (case k156 => k_is)
    (case b157 => k_is); (case y158 => k_is); (case i159 => k_is); (case s160 => first | rfl | k_is); (case e161 => k_is); (case x162 => k_exc)
    (case k163 => k_is); (case b164 => k_is); (case y165 => k_is); (case i166 => k_is); (case s167 => first | rfl | k_is); (case e168 => k_is)
    (case x169 => k_exc); (case k170 => k_is); (case b171 => k_is); (case y172 => k_is); (case i173 => k_is); (case s174 => first | rfl | k_is)
    (case e175 => k_is); (case x176 => k_exc); (case k177 => k_is); (case b178 => k_is); (case y179 => k_is); (case i180 => k_is)
    (case s181 => first | rfl | k_is); (case a182 => k_is); (case pg183 => k_is); (case hd184 => k_is); (case po185 => k_is); (case sa186 => k_is)
    (case mk187 => k_is); (case kc188 => k_is); (case na189 => k_is); (case na190 => k_is); (case na191 => k_is); (case na192 => k_is)
    (case a193 => k_is); (case pg194 => k_is); (case hd195 => k_is); (case po196 => k_is); (case sa197 => k_is); (case mk198 => k_is)
    (case kc199 => k_is); (case oi200 => k_is); (case a201 => k_is); (case i202 => k_is); (case l203 => k_is); (case c204 => k_is)
    (case k205 => k_is); (case a206 => k_is); (case i207 => k_is); (case l208 => k_is); (case c209 => k_is); (case k210 => k_is)
    (case a211 => k_is); (case i212 => k_is); (case l213 => k_is); (case c214 => k_is); (case k215 => k_is)
    (case al => k_is); (case ll => k_is); (case cl => k_is); (case kl => k_is)
