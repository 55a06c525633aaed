import PyProof.Rows.All
import Wide.All
import OpenK.AllK
import Wide.FinOn
import HandS.ForMost
import HandS.ForExc
import HandS.IsInst
import HandS.Style
import HandS.Wide
import HandS.Codes
import HandS.Defaults
import HandS.EndBits
import HandS.Conv
import HandS.TupAny
import HandS.TryMany
import KE.GoesMore
import KE.GoesEnum
import KE.KxText
import KE.DataMinMax
import KE.SortData
import HandS.SortKw
import PyProof.ReprBulk
import HandS.ExcInit
import HandS.ExcField
import HandS.Walk
import HandS.DeepEq
import HandS.WideBits
import HandS.Zip
import PySem.Challenge.RW_everymatch_k65_whole_rows_of_shape_deeds
set_option Elab.async false
set_option linter.all false
set_option maxRecDepth 100000
set_option maxHeartbeats 4000000
namespace EM
open PySem PySem.Spec PyProof.Rows L2
/-! ### the top's facts, in short forms -/
/-- a def of the top without defaults -/
structure DefAt (K : PySem.W.Frag) (mg : Str → Option Value) (x : Str) (st : Stmt) (ps : List Str) : Prop where
  ex : ∃ (f : Addr) (fd : FuncData), mg x = some (.ref f) ∧ Fun K x x st f fd ∧ Binds K fd ps []
/-- a def with defaults dvs (all of them lacking, or none) -/
structure DefAtD (K : PySem.W.Frag) (mg : Str → Option Value) (x : Str) (st : Stmt) (ps : List Str) (dvs : List V) : Prop where
  ex : ∃ (f : Addr) (fd : FuncData), mg x = some (.ref f) ∧ FunD K x x (defArgs st) (defBody st) (defScope st) dvs [] f fd ∧ Binds K fd ps [] ∧ ∃ ds, Vals dvs ds ∧ Binds K fd ps ds
structure ExcAt (K : PySem.W.Frag) (mg : Str → Option Value) (x : Str) (C : Addr) : Prop where
  g : mg x = some (.ref C)
  x : PySem.W.excIn K C [.type "ValueError", .type "Exception", .type "BaseException", .type "object"] "ValueError.__new__" = true
  k : PySem.W.keepIn K (.ref C) = true
  b : PySem.W.subIn K (.ref C) (.type "BaseException") = some true
  t : PySem.W.typeIn K (.ref C) = some (.type "type")
  m : PySem.W.exmOne K (.ref C) (.ref C) = some true
/-- where a def stands -/
def LkAt (K : PySem.W.Frag) (f : Addr) (fd : FuncData) : Prop := ∃ (oc : Value) (od : Option Addr) (osl : Array (Option Value)), K.lookup f = some ⟨oc, od, .func fd, osl⟩
theorem lk_fun {K : PySem.W.Frag} {x q : Str} {st : Stmt} {f : Addr} {fd : FuncData} (F : Fun K x q st f fd) : LkAt K f fd := by
  obtain ⟨oc, od, _, _, _, _, _, _, osl, _, lk, _⟩ := F.ex
  exact ⟨oc, od, osl, lk⟩
theorem lk_funD {K : PySem.W.Frag} {x q : Str} {pa : Arguments} {bd : List Stmt} {sc : Scope} {dvs : List V} {kws : List (Str × V)} {f : Addr} {fd : FuncData} (F : FunD K x q pa bd sc dvs kws f fd) : LkAt K f fd := by
  obtain ⟨oc, od, _, _, _, _, _, _, _, osl, _, lk, _⟩ := F.ex
  exact ⟨oc, od, osl, lk⟩
/-- a def that keeps its promise, by its name -/
structure Cl (P : Program) (w : World) (K : PySem.W.Frag) (mg : Str → Option Value) (base : Heap) (k : Nat) (x : Str) (ps : List Str) (sp : Sp) : Prop where
  ex : ∃ (f : Addr) (fd : FuncData), FnOk P w K mg base (L2.CX P w) k f fd ps sp ∧ mg x = some (.ref f) ∧ PySem.W.keepIn K (.ref f) = true ∧ Binds K fd ps [] ∧ LkAt K f fd
section
variable {P : Program} {w : World} {K : PySem.W.Frag} {mg : Str → Option Value} {base : Heap}
theorem DefAt.ok {x : Str} {st : Stmt} {N ps : List Str} {k : Nat} {sp : Sp} (D : DefAt K mg x st ps) (S : FnScope N ps (defScope st)) (len : ∀ vs H Q E, sp vs H Q E → vs.length = ps.length)
    (hbody : ∀ (f : Addr) (cdv : Value) (A : Around) (outer : List Env) (s : Shared) (H : Hp) (vs : List V) (Q : VK) (E : XK), Room k (A.deeper (envOfC x (defScope st) s.heap.objs.size f cdv)) → sp vs H Q E →
      ∃ t, PSs (cxOf (L2.CX P w) P w K mg base N x (defScope st) f cdv A outer s H E) (defBody st) t ∧ t { nx := fun _ H' => Q .non H', rt := Q } (start N vs) H) : Cl P w K mg base (k + 1) x ps sp := by
  obtain ⟨f, fd, hm, F, hb⟩ := D.ex
  exact ⟨f, fd, F.okX S len fun cdv A outer s H vs Q E hr h => hbody f cdv A outer s H vs Q E hr h, hm, F.kp, hb, lk_fun F⟩
theorem DefAtD.ok {x : Str} {st : Stmt} {N ps : List Str} {dvs : List V} {k : Nat} {sp : Sp} (D : DefAtD K mg x st ps dvs) (S : FnScope N ps (defScope st)) (len : ∀ vs H Q E, sp vs H Q E → vs.length = ps.length)
    (hbody : ∀ (f : Addr) (cdv : Value) (A : Around) (outer : List Env) (s : Shared) (H : Hp) (vs : List V) (Q : VK) (E : XK), Room k (A.deeper (envOfC x (defScope st) s.heap.objs.size f cdv)) → sp vs H Q E →
      ∃ t, PSs (cxOf (L2.CX P w) P w K mg base N x (defScope st) f cdv A outer s H E) (defBody st) t ∧ t { nx := fun _ H' => Q .non H', rt := Q } (start N vs) H) : Cl P w K mg base (k + 1) x ps sp := by
  obtain ⟨f, fd, hm, F, hb, _⟩ := D.ex
  exact ⟨f, fd, F.ok S len fun cdv A outer s H vs Q E hr h => hbody f cdv A outer s H vs Q E hr h, hm, F.kp, hb, lk_funD F⟩
/-- a promise that is never asked -/
theorem DefAt.never {x : Str} {st : Stmt} {ps : List Str} {k : Nat} {sp : Sp} (D : DefAt K mg x st ps) (h : ∀ vs H Q E, ¬ sp vs H Q E) : Cl P w K mg base k x ps sp := by
  obtain ⟨f, fd, hm, F, hb⟩ := D.ex
  exact ⟨f, fd, ⟨fun vs H Q E z => (h vs H Q E z).elim, fun A outer s H args us vs Q E _ _ _ _ z => (h vs H Q E z).elim⟩, hm, F.kp, hb, lk_fun F⟩
theorem Cl.mono {x : Str} {ps : List Str} {sp : Sp} {j k : Nat} (c : Cl P w K mg base j x ps sp) (h : j ≤ k) : Cl P w K mg base k x ps sp := by
  obtain ⟨f, fd, F, r⟩ := c.ex
  exact ⟨f, fd, F.mono h, r⟩
theorem Cl.imp {x : Str} {ps : List Str} {sp sp' : Sp} {k : Nat} (c : Cl P w K mg base k x ps sp) (h : ∀ vs H Q E, sp' vs H Q E → sp vs H Q E) : Cl P w K mg base k x ps sp' := by
  obtain ⟨f, fd, F, r⟩ := c.ex
  exact ⟨f, fd, F.imp h, r⟩
end
section
variable {X : Cx} {k j : Nat} {x : Str} {ps : List Str} {sp : Sp} {e : Expr} {es : List Expr} {t : TA} {p pos : Pos} {E : XK} {W : WX}
/-- f(..), which raises nothing here -/
theorem pcN (c : Cl X.prog X.w X.K X.mg X.base k x ps sp) (hr : Room j X.A) (hk : k ≤ j) (ha : PA X (e :: es) t) (hg : Gl X x := by rfl)
    (hdb : (x == ("__debug__" : Str)) = false := by decide) (he : starEach (e :: es) X.env = (false, eval e X.env) :: starEach es X.env := by rfl) (hpl : (backTo pos (starEach es X.env)).any (·.1) = false := by rfl) :
    PE X (.Call (.Name x p) (e :: es) [] pos) (tCall sp [] E0 t) := by
  obtain ⟨f, fd, F, hm, kp, b, _⟩ := c.ex
  exact pe_call F (hr.mono hk) hg hm kp b .nil passL ha hdb he hpl
/-- f(..), what it raises goes on to where the def's own errors go -/
theorem pcT (c : Cl X.prog X.w X.K X.mg X.base k x ps sp) (hr : Room j X.A) (hk : k ≤ j) (tk : Takes X fun cls d _ H => E cls d H) (ha : PA X (e :: es) t) (hg : Gl X x := by rfl)
    (hdb : (x == ("__debug__" : Str)) = false := by decide) (he : starEach (e :: es) X.env = (false, eval e X.env) :: starEach es X.env := by rfl) (hpl : (backTo pos (starEach es X.env)).any (·.1) = false := by rfl) :
    PE X (.Call (.Name x p) (e :: es) [] pos) (tCall sp [] E t) := by
  obtain ⟨f, fd, F, hm, kp, b, _⟩ := c.ex
  exact pe_call F (hr.mono hk) hg hm kp b .nil (passes_call tk fun _ _ _ _ h => h) ha hdb he hpl
/-- f(..) in a try's body -/
theorem pcS (c : Cl X.prog X.w X.K X.mg X.base k x ps sp) (hr : Room j X.A) (hk : k ≤ j) (tk : Takes X W) (ha : PA X (e :: es) t) (hg : Gl X x := by rfl)
    (hdb : (x == ("__debug__" : Str)) = false := by decide) (he : starEach (e :: es) X.env = (false, eval e X.env) :: starEach es X.env := by rfl) (hpl : (backTo pos (starEach es X.env)).any (·.1) = false := by rfl) :
    PE X (.Call (.Name x p) (e :: es) [] pos) (tCallS sp (WE W) t) := by
  obtain ⟨f, fd, F, hm, kp, b, _⟩ := c.ex
  exact pe_callS F (hr.mono hk) hg hm kp b (fun σ => passAt tk σ) ha hdb he hpl
end
/-! ### calls by names alone -/
theorem paired_snoc {α β : Type} {R : α → β → Prop} {x : α} {y : β} : ∀ {xs : List α} {ys : List β}, Paired R xs ys → R x y → Paired R (xs ++ [x]) (ys ++ [y])
  | _, _, .nil, h => .cons h .nil
  | _, _, .cons h t, g => .cons h (paired_snoc t g)
theorem paired_rev {α β : Type} {R : α → β → Prop} : ∀ {xs : List α} {ys : List β}, Paired R xs ys → Paired R xs.reverse ys.reverse
  | _, _, .nil => .nil
  | _, _, .cons h t => by
    rw [List.reverse_cons, List.reverse_cons]
    exact paired_snoc (paired_rev t) h
/-- all arguments by names, the last one first -/
structure KwAt (K : PySem.W.Frag) (mg : Str → Option Value) (x : Str) (ps ks : List Str) : Prop where
  ex : ∃ f : Addr, mg x = some (.ref f) ∧ ∀ fd, LkAt K f fd → ∀ (s : Shared) (ws : List Value), K.In s.heap → ws.length = ps.length → BindsTo s fd ⟨[], ks.zip ws⟩ (ps.zip ws.reverse)
def tKw (sp : Sp) (tk : TA) : TE := fun σ H Q => tk σ H fun zs H2 => sp zs.reverse H2 Q E0
section
variable {X : Cx} {k j : Nat} {x : Str} {ps ks : List Str} {sp : Sp} {kws : List Keyword} {tk : TA} {p pos : Pos}
theorem pkN (c : Cl X.prog X.w X.K X.mg X.base k x ps sp) (kw : KwAt X.K X.mg x ps ks) (hr : Room j X.A) (hk : k ≤ j) (hkw : PK X kws tk) (hg : Gl X x := by rfl) (hall : (backToKw pos (keywordEach kws X.env)).all (·.1.isSome) = true := by rfl)
    (hks : (backToKw pos (keywordEach kws X.env)).filterMap (·.1) = ks := by rfl) (hdb : (x == ("__debug__" : Str)) = false := by decide)
    (hpl : ((backTo pos (starEach [] X.env)).any (·.1) || (backToKw pos (keywordEach kws X.env)).any (·.1.isNone)) = false := by rfl) : PE X (.Call (.Name x p) [] kws pos) (tKw sp tk) := by
  obtain ⟨f, fd, F, hm, kp, b, lk⟩ := c.ex
  obtain ⟨f', hm', hkb⟩ := kw.ex
  have ef : f = f' := by
    rw [hm] at hm'
    cases hm'
    rfl
  subst ef
  refine ⟨fun pins s σ H Q I h => wpAny_Call_Name_kw (ld_glob I hg hm (PySem.W.callWith_KW0 (h₀ := X.base) I.ok.mod.kin kp hall (thn (hkw.run pos pins s σ H _ I h) fun ws s2 hh => ?_) hpl) hdb)⟩
  obtain ⟨zs, H2, I2, rz, q⟩ := hh
  have q : sp zs.reverse H2 Q E0 := q
  have rr : Vals zs.reverse ws.reverse := paired_rev rz
  have hl : ws.length = ps.length := by
    have h1 := F.len _ _ _ _ q
    have h2 := rr.length
    have h3 : ws.reverse.length = ws.length := by simp
    omega
  refine ⟨I2.kIn, ?_⟩
  rw [hks]
  refine wpAny_call (codeAny_mono (F.run X.A X.stack s2 H2 ⟨[], ks.zip ws⟩ ws.reverse zs.reverse Q E0 (hr.mono hk) I2.env0 (hkb fd lk s2 ws I2.kIn hl) rr q) fun rr s' hq => ?_)
  match rr, hq with
  | .error z, hq => exact passL pins σ H2 s2 z s' I2 hq
  | .ok (.ret u), hq => exact I2.after hq
  | .ok .next, hq => exact (show False from hq).elim
  | .ok .brk, hq => exact (show False from hq).elim
  | .ok .cont, hq => exact (show False from hq).elim
end
/-! ### kinds of values -/
theorem ty_int {K : PySem.W.Frag} {H : Hp} (i : Int) : TyX K H (.int i) (.type "int") := .base (.int i)
theorem ty_bl {K : PySem.W.Frag} {H : Hp} (i : Bool) : TyX K H (.bl i) (.type "bool") := .base (.bl i)
theorem ty_non {K : PySem.W.Frag} {H : Hp} : TyX K H .non (.type "NoneType") := .base .non
theorem ty_str {K : PySem.W.Frag} {H : Hp} (i : Str) : TyX K H (.str i) (.type "str") := .base (.str i)
theorem ty_l {K : PySem.W.Frag} {H : Hp} {a : Addr} {xs : List V} (h : SqL K H a xs) : TyX K H (.ref a) (.type "list") := by
  rcases h with (h | ⟨o, h⟩) | ⟨o, its, n, h1, h2, _⟩
  · exact .base (.lst h)
  · exact .base (.frz h)
  · exact .kList h1 h2
theorem ty_t {K : PySem.W.Frag} {H : Hp} {a : Addr} {xs : List V} (h : SqT K H a xs) : TyX K H (.ref a) (.type "tuple") := by
  rcases h with (h | ⟨o, h⟩) | ⟨o, its, n, h1, h2, _⟩
  · exact .base (.tup h)
  · exact .fTuple h
  · exact .kTuple h1 h2
theorem sqL_of {K : PySem.W.Frag} {H : Hp} {a : Addr} {xs : List V} (h : H a = some (.lst xs)) : SqL K H a xs := .inl (.inl h)
theorem sqT_of {K : PySem.W.Frag} {H : Hp} {a : Addr} {xs : List V} (h : H a = some (.tup xs)) : SqT K H a xs := .inl (.inl h)
theorem same_new {H : Hp} {p : Addr} {o : HO} (h : H p = none) : Same H (upd H p o) := fun b x e => by
  rw [upd_ne (ne_of_none e h)]
  exact e
theorem Same.seqT {K : PySem.W.Frag} {H H' : Hp} {a : Addr} {xs : List V} (e : Same H H') (h : SqT K H a xs) : SqT K H' a xs := by
  rcases h with (h | ⟨o, h⟩) | h
  · exact .inl (.inl (e _ _ h))
  · exact .inl (.inr ⟨o, e _ _ h⟩)
  · exact .inr h
/-- all but what stands at p is as it was -/
def But (p : Addr) (H H' : Hp) : Prop := ∀ b o, b ≠ p → H b = some o → H' b = some o
theorem But.refl (p : Addr) (H : Hp) : But p H H := fun _ _ _ h => h
theorem But.trans {p : Addr} {H H1 H2 : Hp} (a : But p H H1) (b : But p H1 H2) : But p H H2 := fun c o n h => b c o n (a c o n h)
theorem But.of {p : Addr} {H H' : Hp} (s : Same H H') : But p H H' := fun c o _ h => s c o h
theorem but_upd {p : Addr} {H : Hp} {o : HO} : But p H (upd H p o) := fun c u n h => by rw [upd_ne n]; exact h
theorem But.seqT {K : PySem.W.Frag} {H H' : Hp} {a p : Addr} {xs ys : List V} (e : But p H H') (hp : H p = some (.lst ys)) (h : SqT K H a xs) : SqT K H' a xs := by
  rcases h with (h | ⟨o, h⟩) | h
  · exact .inl (.inl (e _ _ (ne_of h hp (fun z => by cases z)) h))
  · exact .inl (.inr ⟨o, e _ _ (ne_of h hp (fun z => by cases z)) h⟩)
  · exact .inr h
theorem But.seqL {K : PySem.W.Frag} {H H' : Hp} {a p : Addr} {xs : List V} (e : But p H H') (n : a ≠ p) (h : SqL K H a xs) : SqL K H' a xs := by
  rcases h with (h | ⟨o, h⟩) | h
  · exact .inl (.inl (e _ _ n h))
  · exact .inl (.inr ⟨o, e _ _ n h⟩)
  · exact .inr h
theorem seqL_off {K : PySem.W.Frag} {H H1 H' : Hp} {a p : Addr} {xs : List V} (hS : SqL K H a xs) (np : H p = none) (s : Same H H1) (b : But p H1 H') : SqL K H' a xs := by
  have ne : ∀ o, H a = some o → a ≠ p := fun o h z => by rw [z, np] at h; cases h
  rcases hS with (h | ⟨o, h⟩) | h
  · exact .inl (.inl (b a _ (ne _ h) (s _ _ h)))
  · exact .inl (.inr ⟨o, b a _ (ne _ h) (s _ _ h)⟩)
  · exact .inr h
theorem ty_int_inv {K : PySem.W.Frag} {H : Hp} {v : V} (h : TyX K H v (.type "int")) : ∃ i, v = .int i := by
  generalize ht : Value.type "int" = t at h
  cases h with
  | base b => cases b <;> first | exact ⟨_, rfl⟩ | (exfalso; revert ht; simp)
  | _ => exfalso; revert ht; simp
theorem ty_int_val {K : PySem.W.Frag} {H : Hp} {i : Int} {n : String} (h : TyX K H (.int i) (.type n)) : n = "int" := by
  cases h with
  | base b => cases b; rfl
theorem ty_non_val {K : PySem.W.Frag} {H : Hp} {n : String} (h : TyX K H .non (.type n)) : n = "NoneType" := by
  cases h with
  | base b => cases b; rfl
/-- all that was tracked is there; lists may have changed -/
def Keep (H H' : Hp) : Prop := ∀ a o, H a = some o → H' a = some o ∨ ∃ xs ys, o = .lst xs ∧ H' a = some (.lst ys)
theorem Keep.refl (H : Hp) : Keep H H := fun _ _ h => .inl h
theorem Keep.of {H H' : Hp} (s : Same H H') : Keep H H' := fun a o h => .inl (s a o h)
theorem Keep.trans {H H1 H2 : Hp} (a : Keep H H1) (b : Keep H1 H2) : Keep H H2 := fun c o h => by
  rcases a c o h with e | ⟨xs, ys, rfl, e⟩
  · exact b c o e
  · rcases b c _ e with e2 | ⟨us, ws, _, e2⟩
    · exact .inr ⟨xs, ys, rfl, e2⟩
    · exact .inr ⟨xs, ws, rfl, e2⟩
theorem Keep.but {H H' : Hp} {p : Addr} {xs ys : List V} (b : But p H H') (h : H p = some (.lst xs)) (h' : H' p = some (.lst ys)) : Keep H H' := fun a o e => by
  by_cases n : a = p
  · subst n
    rw [h] at e
    cases e
    exact .inr ⟨xs, ys, rfl, h'⟩
  · exact .inl (b a o n e)
theorem Keep.upd {H : Hp} {p : Addr} {xs ys : List V} (h : H p = some (.lst xs)) : Keep H (upd H p (.lst ys)) := Keep.but but_upd h upd_same
theorem Keep.seqT {K : PySem.W.Frag} {H H' : Hp} {a : Addr} {xs : List V} (e : Keep H H') (h : SqT K H a xs) : SqT K H' a xs := by
  rcases h with (h | ⟨o, h⟩) | h
  · rcases e _ _ h with h | ⟨_, _, z, _⟩
    · exact .inl (.inl h)
    · cases z
  · rcases e _ _ h with h | ⟨_, _, z, _⟩
    · exact .inl (.inr ⟨o, h⟩)
    · cases z
  · exact .inr h
theorem Keep.ty {K : PySem.W.Frag} {H H' : Hp} {v : V} {n : String} (e : Keep H H') (h : TyX K H v (.type n)) : TyX K H' v (.type n) := by
  have k : ∀ {a : Addr} {o : HO}, H a = some o → (∀ xs, o ≠ .lst xs) → H' a = some o := fun h n => by
    rcases e _ _ h with h | ⟨xs, _, z, _⟩
    · exact h
    · exact absurd z (n xs)
  generalize ht : Value.type n = t at h
  cases h with
  | base b =>
    cases b with
    | non => exact .base .non
    | bl x => exact .base (.bl x)
    | int i => exact .base (.int i)
    | str x => exact .base (.str x)
    | flt x => exact .base (.flt x)
    | lst h =>
      rcases e _ _ h with h | ⟨_, _, _, h⟩
      · exact .base (.lst h)
      · exact .base (.lst h)
    | frz h => exact .base (.frz (k h fun _ z => by cases z))
    | tup h => exact .base (.tup (k h fun _ z => by cases z))
    | dK h => exact .base (.dK (k h fun _ z => by cases z))
    | dT h => exact .base (.dT (k h fun _ z => by cases z))
    | ins h => cases ht
  | byt b => exact .byt b
  | set h => exact .set (k h fun _ z => by cases z)
  | kList h c => exact .kList h c
  | kTuple h c => exact .kTuple h c
  | kDict h c => exact .kDict h c
  | fTuple h => exact .fTuple (k h fun _ z => by cases z)
  | fDict h => exact .fDict (k h fun _ z => by cases z)
theorem Keep.free {H H' : Hp} (e : Keep H H') {l : Addr} (h : H' l = none) : H l = none := by
  cases q : H l with
  | none => rfl
  | some o =>
    rcases e l o q with z | ⟨_, _, _, z⟩ <;> (rw [h] at z; cases z)
/-- the kinds of things that a law hands in -/
def kinds : List String := ["NoneType", "bool", "int", "str", "list", "tuple", "dict"]
theorem atI_neg1 {α : Type} {xs : List α} {v : α} (h : xs[xs.length - 1]? = some v) : atI xs (-1) = some v := by
  have hl : xs.length - 1 < xs.length := (List.getElem?_eq_some_iff.mp h).1
  unfold atI ixN
  rw [if_neg (by decide), if_pos (by omega)]
  show xs[((-1 : Int) + xs.length).toNat]? = some v
  rw [show ((-1 : Int) + xs.length).toNat = xs.length - 1 by omega]
  exact h
/-- an expression whose value is known: its ways are gone once -/
theorem val_go {te : TE} {σ : L2.St} {H : Hp} {Q : VK} (v : V) (h : ∀ Q : VK, Q v H → te σ H Q) (q : Q v H) : te σ H Q := h Q q
theorem val_goS {te : TE} {σ : L2.St} {H : Hp} {Q : VK} (v : V) (h : ∀ Q : VK, (∀ H', Same H H' → Q v H') → te σ H Q) (q : ∀ H', Same H H' → Q v H') : te σ H Q := h Q q
theorem val_goE {te : TE} {σ : L2.St} {H : Hp} {Q : VK} (Pr : V → Hp → Prop) (h : ∀ Q : VK, (∀ v H', Pr v H' → Q v H') → te σ H Q) (q : ∀ v H', Pr v H' → Q v H') : te σ H Q := h Q q
theorem tst_go {te : TT} {σ : L2.St} {H : Hp} {Q : Bool → Hp → Prop} (v : Bool) (h : ∀ Q : Bool → Hp → Prop, Q v H → te σ H Q) (q : Q v H) : te σ H Q := h Q q
/-- a node as a value -/
def nV (n : Nat) : V := .int n
/-! ### products of great ints -/
def CMulX (i j : Int) : Prop := i.natAbs.log2 + j.natAbs.log2 < 100000000
theorem CMulX.ok {i j : Int} (h : CMulX i j) : IntMulOk i j := by
  have b : ∀ x : Int, Builtin.Int.intBits x ≤ x.natAbs.log2 + 1 := fun x => by
    unfold Builtin.Int.intBits
    split <;> omega
  have h1 := b i
  have h2 := b j
  have h3 : i.natAbs.log2 + j.natAbs.log2 < 100000000 := h
  have e : bitsLine = 134217728 := by decide
  unfold IntMulOk
  intro z
  rw [Bool.and_eq_true] at z
  have z2 := z.2
  unfold Builtin.Int.intTooBig at z2
  have z3 := of_decide_eq_true z2
  rw [e] at z3
  omega
theorem op_mulX {X : Cx} : OpR X (binaryOp .Mult) (rI CMulX fun i j => .int (i * j)) := opI fun _ _ _ _ _ _ _ hc q => mul_int q hc.ok
theorem log2_le_of {m n : Nat} (h : m ≤ n) : m.log2 ≤ n.log2 := by
  by_cases h0 : m = 0
  · subst h0
    rw [show Nat.log2 0 = 0 by decide]
    exact Nat.zero_le _
  · exact (Nat.le_log2 (by omega)).mpr (Nat.le_trans (Nat.log2_self_le h0) h)
theorem log2_lt_of {m k : Nat} (h : m < 2 ^ k) (hk : 0 < k) : m.log2 < k := PySem.Flt.log2_lt_of hk h
theorem log2_add (a b : Nat) : (a + b).log2 ≤ max a.log2 b.log2 + 1 := by
  have h1 : a < 2 ^ (a.log2 + 1) := Nat.lt_log2_self
  have h2 : b < 2 ^ (b.log2 + 1) := Nat.lt_log2_self
  have m1 : 2 ^ (a.log2 + 1) ≤ 2 ^ (max a.log2 b.log2 + 1) := Nat.pow_le_pow_right (by decide) (by omega)
  have m2 : 2 ^ (b.log2 + 1) ≤ 2 ^ (max a.log2 b.log2 + 1) := Nat.pow_le_pow_right (by decide) (by omega)
  have h3 : a + b < 2 ^ (max a.log2 b.log2 + 2) := by
    rw [show max a.log2 b.log2 + 2 = (max a.log2 b.log2 + 1) + 1 from rfl, Nat.pow_succ]
    omega
  have := log2_lt_of h3 (by omega)
  omega
theorem log2_addI (a b : Int) : (a + b).natAbs.log2 ≤ max a.natAbs.log2 b.natAbs.log2 + 1 :=
  Nat.le_trans (log2_le_of (by omega)) (log2_add a.natAbs b.natAbs)
theorem bits_log2 {z : Int} {n : Nat} (h : Builtin.Int.intBits z ≤ n) : z.natAbs.log2 ≤ n := by
  unfold Builtin.Int.intBits at h
  split at h
  · rename_i e
    rw [show z.natAbs = 0 by simp_all]
    rw [show Nat.log2 0 = 0 by decide]
    exact Nat.zero_le _
  · omega
/-! ### cuts -/
theorem cut_to (xs : List V) (k : Nat) : cutV xs none (some (k : Int)) = xs.take k := by
  unfold cutV
  rw [HT.sIx_nat, HT.sIx_none, Nat.sub_zero, List.drop_zero]
  rcases Nat.le_total k xs.length with h | h
  · rw [Nat.min_eq_left h]
  · rw [Nat.min_eq_right h, List.take_length, List.take_of_length_le h]
theorem cut_from (xs : List V) (k : Nat) : cutV xs (some (k : Int)) none = xs.drop k := by
  unfold cutV
  rw [HT.sIx_nat, HT.sIx_none]
  rcases Nat.le_total k xs.length with h | h
  · rw [Nat.min_eq_left h, List.take_of_length_le (by rw [List.length_drop]; omega)]
  · rw [Nat.min_eq_right h, List.drop_length, List.drop_eq_nil_of_le h, List.take_nil]
theorem cut_mid (xs : List V) (j k : Nat) : cutV xs (some (j : Int)) (some (k : Int)) = (xs.take k).drop j := by
  unfold cutV
  rw [HT.sIx_nat, HT.sIx_nat]
  rcases Nat.le_total j xs.length with h | h
  · rw [Nat.min_eq_left h, List.drop_take]
    rcases Nat.le_total k xs.length with h' | h'
    · rw [Nat.min_eq_left h']
    · rw [Nat.min_eq_right h', List.take_of_length_le (by rw [List.length_drop]; omega), List.take_of_length_le (by rw [List.length_drop]; omega)]
  · rw [Nat.min_eq_right h, List.drop_length, List.take_nil, List.drop_eq_nil_of_le (by rw [List.length_take]; omega)]
/-! ### the feed: what a law draws from -/
structure FeedAt (H : Hp) (p : Addr) (n : Nat) : Prop where
  ex : ∃ x y c : Int, H p = some (.lst [.int x, .int y, .int c]) ∧ 0 ≤ x ∧ x.natAbs.log2 < 2000000 ∧ 0 ≤ y ∧ y < 10 ^ 40 ∧ 0 ≤ c ∧ c ≤ n
theorem FeedAt.mono {H : Hp} {p : Addr} {n m : Nat} (h : FeedAt H p n) (l : n ≤ m) : FeedAt H p m := by
  obtain ⟨x, y, c, h1, h2, h3, h4, h5, h6, h7⟩ := h.ex
  exact ⟨x, y, c, h1, h2, h3, h4, h5, h6, by omega⟩
theorem FeedAt.keep {H H' : Hp} {p : Addr} {n : Nat} (h : FeedAt H p n) (s : ∀ o, H p = some o → H' p = some o) : FeedAt H' p n := by
  obtain ⟨x, y, c, h1, h2⟩ := h.ex
  exact ⟨x, y, c, s _ h1, h2⟩
theorem FeedAt.ne {H : Hp} {p a : Addr} {n : Nat} (h : FeedAt H p n) (na : H a = none) : a ≠ p := by
  obtain ⟨x, y, c, h1, _⟩ := h.ex
  exact fun z => by rw [z, h1] at na; cases na
theorem FeedAt.new {H : Hp} {p a : Addr} {n : Nat} {o : HO} (h : FeedAt H p n) (na : H a = none) : FeedAt (upd H a o) p n := h.keep fun u e => same_new na _ _ e
theorem FeedAt.same {H H' : Hp} {p : Addr} {n : Nat} (h : FeedAt H p n) (s : Same H H') : FeedAt H' p n := h.keep fun u e => s _ _ e
theorem FeedAt.keeps {H H' : Hp} {p : Addr} {n m : Nat} (h : FeedAt H p n) (b : But p H H') (h' : FeedAt H' p m) : Keep H H' := by
  obtain ⟨x, y, c, h1, _⟩ := h.ex
  obtain ⟨x', y', c', h1', _⟩ := h'.ex
  exact Keep.but b h1 h1'
theorem FeedAt.lst {H : Hp} {p : Addr} {n : Nat} (h : FeedAt H p n) : ∃ ys, H p = some (.lst ys) := by
  obtain ⟨x, y, c, h1, h2⟩ := h.ex
  exact ⟨_, h1⟩
/-! ### an own error with a place: its __init__ calls MatchError.__init__, then keeps the place -/
structure PlErr (K : PySem.W.Frag) (mg : Str → Option Value) (x : Str) (C : Addr) (st : Stmt) : Prop where
  g : mg x = some (.ref C)
  o : OexC K C
  no : PySem.W.findIn K (.ref C) "place" = some none
  m : PySem.W.exmOne K (.ref C) (.ref C) = some true
  xf : XfC K C
  par : ∃ M : Addr, mg "MatchError" = some (.ref M) ∧ PySem.W.specialIn K (.ref M) "__getattribute__" = some (some (.builtin "type.__getattribute__")) ∧ PySem.W.readsIn K M (.type "type") = true ∧
    PySem.W.findCls K (.ref M) (.type "type") "__init__" = some (.val (.builtin "ValueError.__init__"))
  fn : ∃ (fI : Addr) (fd : FuncData), PySem.W.findIn K (.ref C) "__init__" = some (some (.ref fI)) ∧ PySem.W.typeIn K (.ref fI) = some (.type "function") ∧ Fun K "__init__" (x ++ ".__init__") st fI fd ∧ Binds K fd ["self", "place"] []
section
variable {X : Cx} {o e : Expr} {es : List Expr} {to te : TE} {ta : TA} {p p' p1 p2 pos : Pos} {xM : Str} {M : Addr}
theorem pe_mcinit {pl : Sem Bool} (hg : Gl X xM) (hm : X.mg xM = some (.ref M)) (ga : PySem.W.specialIn X.K (.ref M) "__getattribute__" = some (some (.builtin "type.__getattribute__"))) (rd : PySem.W.readsIn X.K M (.type "type") = true)
    (vV : PySem.W.findCls X.K (.ref M) (.type "type") "__init__" = some (.val (.builtin "ValueError.__init__"))) (ha : PA X (e :: es) ta) (hdb : (xM == ("__debug__" : Str)) = false := by decide)
    (hc : eval (.Call (.Attribute (.Name xM p1) "__init__" p2) (e :: es) [] pos) X.env = (do
      let ov ← eval (.Name xM p1) X.env
      standAt p2.atName
      let (f, first) ← holding [ov] (getMethod ov "__init__" pl)
      callWith pos f first (backTo pos (starEach (e :: es) X.env)) (backToKw pos (keywordEach [] X.env))) := by rfl)
    (he : starEach (e :: es) X.env = (false, eval e X.env) :: starEach es X.env := by rfl) (hpl : (backTo pos (starEach es X.env)).any (·.1) = false := by rfl) :
    PE X (.Call (.Attribute (.Name xM p1) "__init__" p2) (e :: es) [] pos) (tVeI X.K ta) := by
  refine ⟨fun pins s σ H Q I h => ?_⟩
  refine PySem.W.methodCall_KW (ld_glob I hg hm ?_ hdb) hc
  refine PySem.W.method_cls I.kIn ga (PySem.W.cls_value I.kIn rd vV rfl ?_)
  show wpAny _ _ (callWith pos (Value.builtin "ValueError.__init__") [] (backTo pos (starEach (e :: es) X.env)) []) _ _ _
  refine PyProof.Rows.callWith_method1 (thn (ha.run pos pins _ σ H _ (I.tok _) h) fun us s1 ⟨vs, H1, I1, r1, a, C, ws, ev, hl, T, ea, q⟩ => ?_) he hpl
  subst ev
  cases r1 with
  | @cons _ u0 _ ur ra rw' =>
    obtain rfl : u0 = Value.ref a := ra
    have hlen : ur.length ≤ sizeLine := by
      rw [← Paired.length rw', sizeLine_eq]
      omega
    exact oinit_ok T I1 ea hlen fun s' J => ⟨.non, H1, J, rfl, q⟩
end
/-- what such an __init__ does -/
def spPl (C : Addr) : Sp := fun vs H Q _ => ∃ (a : Addr) (v : V), vs = [.ref a, v] ∧ H a = some (exo a C none) ∧ ∀ dx, H dx = none → dx ≠ a → Q .non (upd (upd H dx (exd dx [("place", v)])) a (exo a C (some dx)))
/-- X(e) -/
def tMkPl (C : Addr) (ta : TA) : L2.St → Hp → XK → Prop := fun σ H Q => ta σ H fun vs H1 => ∃ v, vs = [v] ∧ ∀ d, H1 d = none → Q (.ref C) (some d) (upd H1 d (.xd [("place", v)]))
/-- its __init__ keeps its promise -/
structure PlOk (P : Program) (w : World) (K : PySem.W.Frag) (mg : Str → Option Value) (base : Heap) (x : Str) (C : Addr) : Prop where
  ex : ∃ (fI : Addr) (fd : FuncData), PySem.W.findIn K (.ref C) "__init__" = some (some (.ref fI)) ∧ PySem.W.typeIn K (.ref fI) = some (.type "function") ∧ FnOk P w K mg base (L2.CX P w) 1 fI fd ["self", "place"] (spPl C) ∧ Binds K fd ["self", "place"] []
  g : mg x = some (.ref C)
  o : OexC K C
section
variable {X : Cx} {e : Expr} {ta : TA} {p pos : Pos} {x : Str} {C : Addr}
theorem pmk_pl (B : PlOk X.prog X.w X.K X.mg X.base x C) (hr : Room 2 X.A) (ha : PA X [e] ta) (hg : Gl X x := by rfl)
    (hdb : (x == ("__debug__" : Str)) = false := by decide) (he : starEach (e :: []) X.env = (false, eval e X.env) :: starEach [] X.env := by rfl) (hpl : (backTo pos (starEach [] X.env)).any (·.1) = false := by rfl) :
    PMk X (.Call (.Name x p) (e :: []) [] pos) (tMkPl C ta) := by
  obtain ⟨fI, fd, iC, tI, F, hb⟩ := B.ex
  have ha' : PA X [e] (fun σ H Q => ∃ R : List V → Hp → Prop, ta σ H R ∧ ∀ vs H1, R vs H1 → Q vs H1) := ⟨fun ps pins s σ H Q I h => by
    obtain ⟨R, h1, h2⟩ := h
    exact thn (ha.run ps pins s σ H R I h1) fun us s1 ⟨vs, H1, I1, r1, q⟩ => ⟨vs, H1, I1, r1, h2 vs H1 q⟩⟩
  have key := pmk_oex (p := p) (pos := pos) (e := e) (es := []) B.o iC tI F hr hb .nil passL hg B.g ha' hdb he hpl
  intro pins s σ H Q I h
  refine key pins s σ H Q I ⟨_, h, fun vs H1 hh => ?_⟩
  obtain ⟨v, rfl, q⟩ := hh
  refine ⟨by show 1 ≤ 1000; decide, fun a na => ⟨a, v, rfl, upd_same, fun dx nd ne => ⟨rfl, dx, [("place", v)], upd_same, ?_, ?_, ?_⟩⟩⟩
  · rw [upd_ne ne, upd_same]
  · rwa [upd_ne ne] at nd
  · have nd1 : H1 dx = none := by rwa [upd_ne ne] at nd
    have e : upd (del (upd (upd (upd H1 a (exo a C none)) dx (exd dx [("place", v)])) a (exo a C (some dx))) a) dx (.xd [("place", v)]) = upd H1 dx (.xd [("place", v)]) := by
      funext b
      by_cases h1 : b = dx
      · subst h1
        rw [upd_same, upd_same]
      · rw [upd_ne h1, upd_ne h1]
        by_cases h2 : b = a
        · subst h2
          rw [del_same, na]
        · rw [del_ne h2, upd_ne h2, upd_ne h1, upd_ne h2]
    rw [e]
    exact q dx nd1
end
/-! ### own classes -/
/-- a class of the top and its attributes -/
structure ClsAt (K : PySem.W.Frag) (mg : Str → Option Value) (x : Str) (C : Addr) (as : List Str) : Prop where
  g : mg x = some (.ref C)
  cl : Cls K C
  makes : PySem.W.makesIn K C = true
  kp : PySem.W.keepIn K (.ref C) = true
  no : ∀ f ∈ as, NoAttr K C f
/-- without an own __init__ -/
def BareAt (K : PySem.W.Frag) (C : Addr) : Prop := PySem.W.findIn K (.ref C) "__init__" = some (some (.builtin "object.__init__"))
/-- a method of a class -/
structure MethAt (K : PySem.W.Frag) (C : Addr) (m q : Str) (st : Stmt) (ps : List Str) : Prop where
  ex : ∃ (f : Addr) (fd : FuncData), PySem.W.findIn K (.ref C) m = some (some (.ref f)) ∧ PySem.W.isFn K (.ref f) = true ∧ Fun K m q st f fd ∧ Binds K fd ps []
/-- a method that keeps its promise -/
structure Mc (P : Program) (w : World) (K : PySem.W.Frag) (mg : Str → Option Value) (base : Heap) (k : Nat) (C : Addr) (m : Str) (ps : List Str) (sp : Sp) : Prop where
  ex : ∃ (f : Addr) (fd : FuncData), FnOk P w K mg base (L2.CX P w) k f fd ps sp ∧ Meth K C m f ∧ Binds K fd ps []
section
variable {P : Program} {w : World} {K : PySem.W.Frag} {mg : Str → Option Value} {base : Heap}
theorem MethAt.ok {C : Addr} {m q : Str} {st : Stmt} {N ps : List Str} {k : Nat} {sp : Sp} (D : MethAt K C m q st ps) (S : FnScope N ps (defScope st)) (len : ∀ vs H Q E, sp vs H Q E → vs.length = ps.length)
    (hbody : ∀ (f : Addr) (cdv : Value) (A : Around) (outer : List Env) (s : Shared) (H : Hp) (vs : List V) (Q : VK) (E : XK), Room k (A.deeper (envOfC q (defScope st) s.heap.objs.size f cdv)) → sp vs H Q E →
      ∃ t, PSs (cxOf (L2.CX P w) P w K mg base N q (defScope st) f cdv A outer s H E) (defBody st) t ∧ t { nx := fun _ H' => Q .non H', rt := Q } (start N vs) H) : Mc P w K mg base (k + 1) C m ps sp := by
  obtain ⟨f, fd, hf, fn, F, hb⟩ := D.ex
  exact ⟨f, fd, F.okX S len fun cdv A outer s H vs Q E hr h => hbody f cdv A outer s H vs Q E hr h, ⟨hf, fn, F.kp⟩, hb⟩
theorem Mc.imp {C : Addr} {m : Str} {ps : List Str} {sp sp' : Sp} {k : Nat} (c : Mc P w K mg base k C m ps sp) (h : ∀ vs H Q E, sp' vs H Q E → sp vs H Q E) : Mc P w K mg base k C m ps sp' := by
  obtain ⟨f, fd, F, r⟩ := c.ex
  exact ⟨f, fd, F.imp h, r⟩
end
/-- C() without an own __init__ -/
def tBare (C : Addr) : TE := fun _ H Q => ∀ x dx, H x = none → H dx = none → dx ≠ x → Q (.ref x) (upd (upd H dx (.own x)) x (.ins C dx []))
section
variable {X : Cx} {k j : Nat} {x m : Str} {C : Addr} {ps as : List Str} {sp : Sp} {e o : Expr} {es : List Expr} {t : TA} {ta : TE} {p pos apos : Pos}
/-- C(..) -/
theorem pkN' (c : Mc X.prog X.w X.K X.mg X.base k C "__init__" ps sp) (cl : ClsAt X.K X.mg x C as) (hr : Room j X.A) (hk : k + 1 ≤ j) (ha : PA X (e :: es) t) (hg : Gl X x := by rfl)
    (hdb : (x == ("__debug__" : Str)) = false := by decide) (he : starEach (e :: es) X.env = (false, eval e X.env) :: starEach es X.env := by rfl) (hpl : (backTo pos (starEach es X.env)).any (·.1) = false := by rfl) :
    PE X (.Call (.Name x p) (e :: es) [] pos) (tMake C sp [] E0 t) := by
  obtain ⟨f, fd, F, M, b⟩ := c.ex
  exact pe_make ⟨cl.makes, M.at_, M.fn, cl.kp⟩ F (hr.mono hk) hg cl.g b .nil passL ha hdb he hpl
/-- o.m(..) -/
theorem pmN (c : Mc X.prog X.w X.K X.mg X.base k C m ps sp) (cl : Cls X.K C) (hr : Room j X.A) (hk : k ≤ j) {pl : Sem Bool} (he : PE X o ta) (ha : PA X (e :: es) t)
    (hst : starEach (e :: es) X.env = (false, eval e X.env) :: starEach es X.env := by rfl) (hpl : (backTo pos (starEach es X.env)).any (·.1) = false := by rfl)
    (ht : eval (.Call (.Attribute o m apos) (e :: es) [] pos) X.env = (do
      let ov ← eval o X.env
      standAt apos.atName
      let (f, first) ← holding [ov] (getMethod ov m pl)
      callWith pos f first (backTo pos (starEach (e :: es) X.env)) (backToKw pos (keywordEach [] X.env))) := by rfl) :
    PE X (.Call (.Attribute o m apos) (e :: es) [] pos) (tMeth C m sp [] E0 ta t) := by
  obtain ⟨f, fd, F, M, b⟩ := c.ex
  exact pe_meth he cl M F (hr.mono hk) b .nil passL ha hst hpl ht
theorem pbare (cl : ClsAt X.K X.mg x C as) (hi : BareAt X.K C) (hg : Gl X x := by rfl) (hdb : (x == ("__debug__" : Str)) = false := by decide) : PE X (.Call (.Name x p) [] [] pos) (tBare C) := by
  refine ⟨fun pins s σ H Q I h => ?_⟩
  refine wpAny_Call_Name_kw (ld_glob I hg cl.g ?_ hdb)
  refine PySem.W.callWith_K0 I.kIn cl.kp ?_
  have hq := h (s.heap.objs.size + 1) s.heap.objs.size (I.hok.fresh (Nat.le_succ _)) (I.hok.fresh (Nat.le_refl _)) (Nat.ne_of_lt (Nat.lt_succ_self _))
  have I2 := Inv.made (C := C) I
  show wpAny _ _ (call (.ref C) []) _ _ _
  have Y := PySem.W.makes_of (M := model X.prog X.w) I.kIn cl.makes
  refine wpAny_call (make_map0 I.kIn cl.makes hi (fun self => PySem.W.Looks.of_pure (PySem.W.oi_bind self)) ?_)
  have hx : ((s.heap.push PySem.W.emptyDict).push (PySem.W.instObj C s.heap.objs.size)).get? (s.heap.objs.size + 1) = some (PySem.W.instObj C s.heap.objs.size) := by heap_get
  have t1 : PySem.W.Looks (model X.prog X.w) ((s.heap.push PySem.W.emptyDict).push (PySem.W.instObj C s.heap.objs.size)) (typeOf (.ref (s.heap.objs.size + 1))) (.ref C) := (PySem.W.Looks.ld hx).andThen .now
  have t2 : PySem.W.Looks (model X.prog X.w) ((s.heap.push PySem.W.emptyDict).push (PySem.W.instObj C s.heap.objs.size)) (isInstance (.ref (s.heap.objs.size + 1)) (.type "object")) true := t1.andThen (Y.top.keeps fun b o e => Heap.get?_push_of_some _ (Heap.get?_push_of_some _ e))
  refine codeAny_call_builtin PySem.W.oi_plain PySem.W.entry_oi (@PySem.W.check_slot (model X.prog X.w) _ _ _ "object.__init__" "object" "__init__" (.ref (s.heap.objs.size + 1)) [] [] _ PySem.W.oi_kind PySem.W.oi_split t2 (PySem.W.oi_args (.ref (s.heap.objs.size + 1))) ?_)
  rw [PySem.W.oi_run]
  exact wpAny_pure (And.intro rfl ⟨V.ref (s.heap.objs.size + 1), _, I2, rfl, hq⟩)
end
/-! ### xs[a:c] = ys of another list -/
def sSetSl (to tl th tv : TE) : TS := fun D σ H => tv σ H fun v H1 => to σ H1 fun x H2 => tl σ H2 fun i H3 => ∃ a, i = .int a ∧ th σ H3 fun j H4 => ∃ (c : Int) (l b : Addr) (xs ys : List V), j = .int c ∧ x = .ref l ∧ v = .ref b ∧
  H4 l = some (.lst xs) ∧ H4 b = some (.lst ys) ∧ l ≠ b ∧ 0 ≤ a ∧ a ≤ c ∧ c ≤ xs.length ∧ xs.length + ys.length ≤ sizeLine ∧ D.nx σ (upd H4 l (.lst (xs.take a.toNat ++ ys ++ xs.drop c.toNat)))
theorem ps_setSl {X : Cx} {o lo hi value : Expr} {to tl th tv : TE} {p2 pos' pos : Pos} (hv : PE X value tv) (ho : PE X o to) (hl : PE X lo tl) (hu : PE X hi th)
    (hs : swapsWith value (some (.Subscript o (.Slice (some lo) (some hi) none p2) pos')) pos.line X.env = pure false := by rfl) : PS X (.Assign [.Subscript o (.Slice (some lo) (some hi) none p2) pos'] value pos) (sSetSl to tl th tv) := by
  refine ⟨fun pins s σ H D I h => ?_⟩
  refine wpAny_Assign_Subscript (thn (hv.run pins s σ H _ I h) fun r s1 ⟨v, H1, I1, rv, q1⟩ => thn (ho.run pins s1 σ H1 _ I1 q1) fun u s2 ⟨x, H2, I2, rx, q2⟩ => ?_) hs
  refine wpAny_Slice ?_
  rw [evalPart_some]
  refine thn (hl.run pins s2 σ H2 _ I2 q2) fun vl s3 ⟨i, H3, I3, pl, a, ei, q3⟩ => ?_
  rw [evalPart_some]
  refine thn (hu.run pins s3 σ H3 _ I3 q3) fun vu s4 ⟨j, H4, I4, pu, q4⟩ => ?_
  rw [evalPart_none]
  refine wpAny_pure ?_
  obtain ⟨c, l, b, xs, ys, ej, ex, ev, hH, hB, hne, h0, hac, hc, hz, q⟩ := q4
  subst ei
  subst ej
  subst ex
  subst ev
  have I5 : Inv X pins σ H4 { s4 with heap := s4.heap.push { cls := .type "slice", data := .fields #[vl, vu, .none] } } := I4.kept (t' := s4.toks) fun b ob q => Heap.get?_push_of_some _ q
  obtain rfl : u = Value.ref l := rx
  obtain rfl : r = Value.ref b := rv
  exact set_slice I5 hH hB hne (Heap.IsSliceOf.new ..) pl pu h0 hac hc hz fun s' I' => ⟨σ, _, I', q⟩
/-! ### the top's facts out of the written part -/
section
variable {P : Program} {w : World} {K : PySem.W.Frag} {mg : Str → Option Value} {base : Heap} {h : Heap} {f : Addr} {st : Stmt} {ps : List Str} {x : Str}
theorem defAt_mk {oc : Value} {od an : Option Addr} {osl : Array (Option Value)} {kV doc pm cdv ct : Value} (X : K.In h) (G : h.Ns mainGlobals mg) (a : PySem.W.nsIn K mainGlobals x = some (some (.ref f)))
    (l : K.lookup f = some ⟨oc, od, .func (PySem.W.fnOf x x (defArgs st) (defBody st) (defScope st) .none kV doc pm an cdv ct), osl⟩) (c : PySem.W.codeIn K cdv x = true) (k : PySem.W.keepIn K (.ref f) = true)
    (hb : ∀ (kV doc pm : Value) (an : Option Addr) (cdv ct : Value) (us : List Value), us.length = ps.length → bindArgs (PySem.W.fnOf x x (defArgs st) (defBody st) (defScope st) .none kV doc pm an cdv ct) ⟨us, []⟩ = pure (ps.zip us)) : DefAt K mg x st ps := by
  have F := fun_mk (st := st) l c k
  exact ⟨f, _, PySem.W.mg_of X G a, F, F.binds hb⟩
theorem defAtD_mk {oc oc' : Value} {od an od' : Option Addr} {osl osl' : Array (Option Value)} {kV doc pm cdv ct : Value} {T : Addr} {its : List Value} {nT : Nat} {dvs : List V} (n : Nat) (hd : dvs ≠ []) (hl : n + dvs.length = ps.length) (X : K.In h) (G : h.Ns mainGlobals mg) (a : PySem.W.nsIn K mainGlobals x = some (some (.ref f)))
    (l : K.lookup f = some ⟨oc, od, .func (PySem.W.fnOf x x (defArgs st) (defBody st) (defScope st) (.ref T) kV doc pm an cdv ct), osl⟩) (c : PySem.W.codeIn K cdv x = true) (k : PySem.W.keepIn K (.ref f) = true)
    (lT : K.lookup T = some ⟨oc', od', .seq its.toArray nT, osl'⟩) (hv : Vals dvs its)
    (hb : ∀ (j : Nat), (j = 0 ∨ j = dvs.length) → ∀ (T : Addr) (kV doc pm : Value) (an : Option Addr) (cdv ct : Value) (us its : List Value), us.length + (dvs.length - j) = ps.length → its.length = dvs.length →
      ∃ k, bindArgs (PySem.W.fnOf x x (defArgs st) (defBody st) (defScope st) (.ref T) kV doc pm an cdv ct) ⟨us, []⟩ = seqItems? (.ref T) >>= k ∧ k (some its.toArray) = pure (ps.zip (us ++ its.drop j))) : DefAtD K mg x st ps dvs := by
  have F : FunD K x x (defArgs st) (defBody st) (defScope st) dvs [] f _ := ⟨⟨oc, od, .ref T, kV, doc, pm, an, cdv, ct, osl, rfl, l, c, .inr ⟨hd, T, _, its, nT, rfl, lT, rfl, hv⟩, .inl rfl⟩, k⟩
  refine ⟨f, _, PySem.W.mg_of X G a, F, ?_, ?_⟩
  · obtain ⟨ds, v, b⟩ := F.binds1 ps.length dvs.length hd (by omega) fun T kV doc pm an cdv ct us its h1 h2 => hb dvs.length (.inr rfl) T kV doc pm an cdv ct us its (by omega) h2
    rw [List.drop_length] at v
    cases v
    exact b
  · obtain ⟨ds, v, b⟩ := F.binds1 n 0 hd (by omega) fun T kV doc pm an cdv ct us its h1 h2 => hb 0 (.inl rfl) T kV doc pm an cdv ct us its (by omega) h2
    exact ⟨ds, v, b⟩
/-- an error of the class at S is what «except S» names -/
theorem exm_self {S : Addr} (h1 : PySem.W.subIn K (.ref S) (.type "BaseException") = some true) (h2 : PySem.W.isClsIn K S = true) (h3 : PySem.W.typeIn K (.ref S) = some (.type "type")) (h4 : PySem.W.subIn K (.ref S) (.ref S) = some true) :
    PySem.W.exmOne K (.ref S) (.ref S) = some true := by
  have e1 : (PySem.W.subIn K (.ref S) (.type "BaseException") == some true) = true := by rw [h1] <;> rfl
  have e2 : ((PySem.W.clsIn K S).isSome && PySem.W.typeIn K (.ref S) == some (.type "type")) = true := by
    have h2' : (PySem.W.clsIn K S).isSome = true := h2
    rw [h2', h3] <;> rfl
  show (if (PySem.W.subIn K (.ref S) (.type "BaseException") == some true) = true then (if ((PySem.W.clsIn K S).isSome && PySem.W.typeIn K (.ref S) == some (.type "type")) = true then PySem.W.subIn K (.ref S) (.ref S) else none) else none) = some true
  rw [if_pos e1, if_pos e2]
  exact h4
theorem exm_no {A S : Addr} {b : Bool} (h1 : PySem.W.subIn K (.ref S) (.type "BaseException") = some true) (h2 : PySem.W.isClsIn K S = true) (h3 : PySem.W.typeIn K (.ref S) = some (.type "type")) (h4 : PySem.W.subIn K (.ref A) (.ref S) = some b) :
    PySem.W.exmOne K (.ref A) (.ref S) = some b := by
  have e1 : (PySem.W.subIn K (.ref S) (.type "BaseException") == some true) = true := by rw [h1] <;> rfl
  have e2 : ((PySem.W.clsIn K S).isSome && PySem.W.typeIn K (.ref S) == some (.type "type")) = true := by
    have h2' : (PySem.W.clsIn K S).isSome = true := h2
    rw [h2', h3] <;> rfl
  show (if (PySem.W.subIn K (.ref S) (.type "BaseException") == some true) = true then (if ((PySem.W.clsIn K S).isSome && PySem.W.typeIn K (.ref S) == some (.type "type")) = true then PySem.W.subIn K (.ref A) (.ref S) else none) else none) = some b
  rw [if_pos e1, if_pos e2]
  exact h4
theorem excAt_mk {S : Addr} (X : K.In h) (G : h.Ns mainGlobals mg) (a : PySem.W.nsIn K mainGlobals x = some (some (.ref S))) (q : PySem.W.excIn K S [.type "ValueError", .type "Exception", .type "BaseException", .type "object"] "ValueError.__new__" = true) (k : PySem.W.keepIn K (.ref S) = true)
    (b : PySem.W.subIn K (.ref S) (.type "BaseException") = some true) (t : PySem.W.typeIn K (.ref S) = some (.type "type")) (i : PySem.W.isClsIn K S = true) (s : PySem.W.subIn K (.ref S) (.ref S) = some true) : ExcAt K mg x S :=
  ⟨PySem.W.mg_of X G a, q, k, b, t, exm_self b i t s⟩
theorem plErr_mk {C M fI N : Addr} {nm q : Str} {bs bm : List Value} {sn : List Str} {sub : List Value} {ab : Bool} {col : Option Bool} {dd : Option Addr} {k0 k1 k2 k3 k5 : Option Value} {oc : Value} {od an : Option Addr} {osl : Array (Option Value)} {kV doc pm cdv ct : Value} (X : K.In h) (G : h.Ns mainGlobals mg)
    (a : PySem.W.nsIn K mainGlobals x = some (some (.ref C))) (l : K.lookup C = some (excClassObj nm q C N bs bm true sn sub ab col dd k0 k1 k2 k3 k5 "ValueError.__new__")) (hb : PySem.HandSPX.refsVE bm = true) (sa : PySem.W.findIn K (.ref C) "__setattr__" = some (some (.builtin "object.__setattr__")))
    (ex : PySem.W.subIn K (.ref C) (.type "BaseException") = some true) (ty : PySem.W.typeIn K (.ref C) = some (.type "type")) (k : PySem.W.keepIn K (.ref C) = true) (no : PySem.W.findIn K (.ref C) "place" = some none) (ic : PySem.W.isClsIn K C = true) (sb : PySem.W.subIn K (.ref C) (.ref C) = some true)
    (ga : PySem.W.findIn K (.ref C) "__getattribute__" = some (some (.builtin "BaseException.__getattribute__"))) (gg : PySem.W.findIn K (.ref C) "__getattr__" = some none) (hd : PySem.W.hasDictIn K C = true)
    (gm : PySem.W.nsIn K mainGlobals "MatchError" = some (some (.ref M))) (sm : PySem.W.specialIn K (.ref M) "__getattribute__" = some (some (.builtin "type.__getattribute__"))) (rd : PySem.W.readsIn K M (.type "type") = true)
    (fc : PySem.W.findCls K (.ref M) (.type "type") "__init__" = some (.val (.builtin "ValueError.__init__"))) (ii : PySem.W.findIn K (.ref C) "__init__" = some (some (.ref fI))) (ti : PySem.W.typeIn K (.ref fI) = some (.type "function"))
    (li : K.lookup fI = some ⟨oc, od, .func (PySem.W.fnOf "__init__" (x ++ ".__init__") (defArgs st) (defBody st) (defScope st) .none kV doc pm an cdv ct), osl⟩) (ci : PySem.W.codeIn K cdv (x ++ ".__init__") = true) (ki : PySem.W.keepIn K (.ref fI) = true)
    (hbi : ∀ (kV doc pm : Value) (an : Option Addr) (cdv ct : Value) (us : List Value), us.length = (["self", "place"] : List Str).length → bindArgs (PySem.W.fnOf "__init__" (x ++ ".__init__") (defArgs st) (defBody st) (defScope st) .none kV doc pm an cdv ct) ⟨us, []⟩ = pure ((["self", "place"] : List Str).zip us)) : PlErr K mg x C st := by
  have F := fun_mk (st := st) li ci ki
  exact ⟨PySem.W.mg_of X G a, ⟨⟨nm, q, N, bs, bm, sn, sub, ab, col, dd, k0, k1, k2, k3, k5, l, hb⟩, sa, ex, ty, k⟩, no, exm_self ex ic ty sb, ⟨ga, gg, ex, hd⟩, ⟨M, PySem.W.mg_of X G gm, sm, rd, fc⟩, ⟨fI, _, ii, ti, F, F.binds hbi⟩⟩
theorem clsAt_mk {C : Addr} {as : List Str} (X : K.In h) (G : h.Ns mainGlobals mg) (a : PySem.W.nsIn K mainGlobals x = some (some (.ref C))) (pg : PySem.W.plainGet K C Str.empty = true) (hd : PySem.W.hasDictIn K C = true) (po : PySem.W.plainOver K C = true)
    (sa : PySem.W.findIn K (.ref C) "__setattr__" = some (some (.builtin "object.__setattr__"))) (mk : PySem.W.makesIn K C = true) (kc : PySem.W.keepIn K (.ref C) = true) (no : ∀ f ∈ as, NoAttr K C f) : ClsAt K mg x C as :=
  ⟨PySem.W.mg_of X G a, ⟨pg, hd, po, sa⟩, mk, kc, no⟩
theorem bareAt_mk {C : Addr} (h : PySem.W.findIn K (.ref C) "__init__" = some (some (.builtin "object.__init__"))) : BareAt K C := h
theorem no_nil {C : Addr} : ∀ f ∈ ([] : List Str), NoAttr K C f := fun f h => by cases h
theorem no_cons {C : Addr} {f : Str} {as : List Str} (n : PySem.W.findIn K (.ref C) f = some none) (h : ∀ g ∈ as, NoAttr K C g) : ∀ g ∈ (f :: as), NoAttr K C g := fun g hg => by
  rcases List.mem_cons.mp hg with e | e
  · rw [e]
    exact n
  · exact h g e
theorem methAt_mk {C f : Addr} {m q : Str} {oc : Value} {od an : Option Addr} {osl : Array (Option Value)} {kV doc pm cdv ct : Value} (a : PySem.W.findIn K (.ref C) m = some (some (.ref f))) (i : PySem.W.isFn K (.ref f) = true)
    (l : K.lookup f = some ⟨oc, od, .func (PySem.W.fnOf m q (defArgs st) (defBody st) (defScope st) .none kV doc pm an cdv ct), osl⟩) (c : PySem.W.codeIn K cdv q = true) (k : PySem.W.keepIn K (.ref f) = true)
    (hb : ∀ (kV doc pm : Value) (an : Option Addr) (cdv ct : Value) (us : List Value), us.length = ps.length → bindArgs (PySem.W.fnOf m q (defArgs st) (defBody st) (defScope st) .none kV doc pm an cdv ct) ⟨us, []⟩ = pure (ps.zip us)) : MethAt K C m q st ps := by
  have F := fun_mk (st := st) l c k
  exact ⟨f, _, a, i, F, F.binds hb⟩
theorem kwAt_mk {oc : Value} {od an : Option Addr} {osl : Array (Option Value)} {kV doc pm cdv ct : Value} {ks : List Str} (X : K.In h) (G : h.Ns mainGlobals mg) (a : PySem.W.nsIn K mainGlobals x = some (some (.ref f)))
    (l : K.lookup f = some ⟨oc, od, .func (PySem.W.fnOf x x (defArgs st) (defBody st) (defScope st) .none kV doc pm an cdv ct), osl⟩)
    (hb : ∀ (kV doc pm : Value) (an : Option Addr) (cdv ct : Value) (ws : List Value), ws.length = ps.length → bindArgs (PySem.W.fnOf x x (defArgs st) (defBody st) (defScope st) .none kV doc pm an cdv ct) ⟨[], ks.zip ws⟩ = pure (ps.zip ws.reverse)) : KwAt K mg x ps ks :=
  ⟨f, PySem.W.mg_of X G a, fun fd lk s ws _ hl => by
    obtain ⟨oc', od', osl', lk⟩ := lk
    rw [l] at lk
    cases lk
    exact .of_eq (hb kV doc pm an cdv ct ws hl)⟩
theorem con_mk {v : V} {u : Value} (X : K.In h) (G : h.Ns mainGlobals mg) (a : PySem.W.nsIn K mainGlobals x = some (some u)) (r : RelV v u) : ∃ u, mg x = some u ∧ RelV v u := ⟨u, PySem.W.mg_of X G a, r⟩
theorem cx_none {H : Hp} {s : Shared} {e : Value} {s' : Shared} (h : L2.CX P w [] H s (fun _ _ _ => False) e s') : False := by
  obtain ⟨_, _, _, _, _, _, _, _, _, _, _, _, z⟩ := h
  exact z.elim
/-- the law's own def -/
theorem law_mk {oc : Value} {od an : Option Addr} {osl : Array (Option Value)} {kV doc pm cdv ct : Value} {fa : Addr} {k : Nat} {sp : Sp} (X : K.In h) (G : h.Ns mainGlobals mg) (hfa : mg "law" = some (.ref fa)) (a : PySem.W.nsIn K mainGlobals "law" = some (some (.ref f)))
    (l : K.lookup f = some ⟨oc, od, .func (PySem.W.fnOf "law" "law" (defArgs st) (defBody st) (defScope st) .none kV doc pm an cdv ct), osl⟩) (c : PySem.W.codeIn K cdv "law" = true) (kp : PySem.W.keepIn K (.ref f) = true)
    (hb : ∀ (s : Shared) (v : Value), BindsTo s (PySem.W.fnOf "law" "law" (defArgs st) (defBody st) (defScope st) .none kV doc pm an cdv ct) ⟨[v], []⟩ [("script", v)])
    (ok : ∀ base : Heap, ∀ fd, Fun K "law" "law" st f fd → FnOk P w K mg base (L2.CX P w) k f fd ["script"] sp) :
    ∃ fd : FuncData, (∀ (s : Shared) (v : Value), BindsTo s fd ⟨[v], []⟩ [("script", v)]) ∧ ∀ base : Heap, K.In base → base.Ns mainGlobals mg → FnOk P w K mg base (L2.CX P w) k fa fd ["script"] sp := by
  have e := hfa.symm.trans (PySem.W.mg_of X G a)
  cases e
  exact ⟨_, hb, fun base _ _ => ok base _ (fun_mk (st := st) l c kp)⟩
end
end EM
namespace EM
open PySem PySem.Spec PyProof.Rows L2
/-! ### defs that may show data (repr): nothing is being shown around them -/
structure FnG (P : Program) (w : World) (K : PySem.W.Frag) (mg : Str → Option Value) (base : Heap) (k : Nat) (f : Addr) (fd : FuncData) (ps : List Str) (sp : Sp) : Prop where
  len : ∀ vs H Q E, sp vs H Q E → vs.length = ps.length
  run : ∀ (A : Around) (outer : List Env) (s : Shared) (H : Hp) (args : Args) (us : List Value) (vs : List V) (Q : VK) (E : XK), Room k A → A.guards = some [] → Env0 P w K mg base A outer s H → BindsTo s fd args (ps.zip us) → Vals vs us → sp vs H Q E →
    codeAny (model P w) A (.call (.ref f) args) (CR (L2.CX P w) outer P w H s Q E) s
section
variable {P : Program} {w : World} {K : PySem.W.Frag} {mg : Str → Option Value} {base : Heap}
theorem Fun.okG {x qual : Str} {st : Stmt} {f : Addr} {fd : FuncData} {N ps : List Str} {k : Nat} {sp : Sp} (F : Fun K x qual st f fd) (S : FnScope N ps (defScope st)) (len : ∀ vs H Q E, sp vs H Q E → vs.length = ps.length)
    (hbody : ∀ (cdv : Value) (A : Around) (outer : List Env) (s : Shared) (H : Hp) (vs : List V) (Q : VK) (E : XK), A.guards = some [] → Room k (A.deeper (envOfC qual (defScope st) s.heap.objs.size f cdv)) → sp vs H Q E →
      ∃ t, PSs (cxOf (L2.CX P w) P w K mg base N qual (defScope st) f cdv A outer s H E) (defBody st) t ∧ t { nx := fun _ H' => Q .non H', rt := Q } (start N vs) H) : FnG P w K mg base (k + 1) f fd ps sp := by
  obtain ⟨oc, od, kV, doc, pm, an, cdv, ct, osl, efd, lk, hcd⟩ := F.ex
  refine ⟨len, fun A outer s H args us vs Q E hr hgd e0 hb r hsp => ?_⟩
  rw [efd] at lk hb
  have stays : ∀ b o, base.get? b = some o → s.heap.get? b = some o := fun b o z => (e0.bs b o z).1
  have KX := e0.mod.kin.keeps stays
  have seen : ∀ y ∈ ps.zip us, (defScope st).names.lookup y.1 = some .local ∨ ((defScope st).names.lookup y.1 = some .cell ∧ ((cellsFrom (s.heap.objs.size + 1) (defScope st).names []).lookup y.1).isSome = true) := by
    rintro ⟨n, v⟩ hy
    exact (S.par n (List.of_mem_zip hy).1).imp id fun q => ⟨q, PySem.W.cellsFrom_some _ _ _ (.inl q)⟩
  refine codeAny_call_function hr.depth (KX _ _ lk) rfl S.co S.gen rfl (PySem.W.codeRec_of KX hcd) (hb _ _ _ _ (wpAny_newFunctionEnv_cells S.kind seen fun env he s1 x => ?_))
  cases he
  refine ⟨(e0.mod.nolimit.keeps stays).keeps x.toInCall.keep, codeAny_func ?_⟩
  obtain ⟨t, ht, hq⟩ := hbody cdv A outer s H vs Q E hgd (hr.deeper _) hsp
  have I := inv_start (CX := L2.CX P w) (E := E) (mg := mg) S hr.hd e0 (len _ _ _ _ hsp) r x
  refine wpAny_mono (ht.run [] s1 (start N vs) H _ I hq) (fun fl s' hs => ?_) fun _ _ z => z
  match fl, hs with
  | .ret u, ⟨v, _, H', J, rv, q⟩ => exact ⟨v, H', J.os, J.bare, J.base, J.hok, rv, q⟩
  | .next, ⟨_, H', J, q⟩ => exact ⟨V.non, H', J.os, J.bare, J.base, J.hok, rfl, q⟩
  | .brk, ⟨_, _, _, q⟩ => exact q.elim
  | .cont, ⟨_, _, _, q⟩ => exact q.elim
/-- a def that may show, by its name -/
structure ClG (P : Program) (w : World) (K : PySem.W.Frag) (mg : Str → Option Value) (base : Heap) (k : Nat) (x : Str) (ps : List Str) (sp : Sp) : Prop where
  ex : ∃ (f : Addr) (fd : FuncData), FnG P w K mg base k f fd ps sp ∧ mg x = some (.ref f) ∧ PySem.W.keepIn K (.ref f) = true ∧ Binds K fd ps []
theorem DefAt.okG {x : Str} {st : Stmt} {N ps : List Str} {k : Nat} {sp : Sp} (D : DefAt K mg x st ps) (S : FnScope N ps (defScope st)) (len : ∀ vs H Q E, sp vs H Q E → vs.length = ps.length)
    (hbody : ∀ (f : Addr) (cdv : Value) (A : Around) (outer : List Env) (s : Shared) (H : Hp) (vs : List V) (Q : VK) (E : XK), A.guards = some [] → Room k (A.deeper (envOfC x (defScope st) s.heap.objs.size f cdv)) → sp vs H Q E →
      ∃ t, PSs (cxOf (L2.CX P w) P w K mg base N x (defScope st) f cdv A outer s H E) (defBody st) t ∧ t { nx := fun _ H' => Q .non H', rt := Q } (start N vs) H) : ClG P w K mg base (k + 1) x ps sp := by
  obtain ⟨f, fd, hm, F, hb⟩ := D.ex
  exact ⟨f, fd, Fun.okG F S len fun cdv A outer s H vs Q E hg hr h => hbody f cdv A outer s H vs Q E hg hr h, hm, F.kp, hb⟩
end
section
variable {X : Cx} {k j : Nat} {x : Str} {ps : List Str} {sp : Sp} {e : Expr} {es : List Expr} {t : TA} {p pos : Pos} {E : XK}
/-- such a def is called, raising nothing -/
theorem pgN (c : ClG X.prog X.w X.K X.mg X.base k x ps sp) (hg0 : X.A.guards = some []) (hr : Room j X.A) (hk : k ≤ j) (ha : PA X (e :: es) t) (hg : Gl X x := by rfl)
    (hdb : (x == ("__debug__" : Str)) = false := by decide) (he : starEach (e :: es) X.env = (false, eval e X.env) :: starEach es X.env := by rfl) (hpl : (backTo pos (starEach es X.env)).any (·.1) = false := by rfl) :
    PE X (.Call (.Name x p) (e :: es) [] pos) (tCall sp [] E0 t) := by
  obtain ⟨f, fd, F, hm, kp, b⟩ := c.ex
  refine ⟨fun pins s σ H Q I h => wpAny_Call_Name_kw (ld_glob I hg hm (PySem.W.callWith_K (h₀ := X.base) I.ok.mod.kin kp (thn (ha.run pos pins s σ H _ I h) fun us s1 hh => ?_) he hpl) hdb)⟩
  obtain ⟨vs, H1, I1, r, q⟩ := hh
  have q : sp (vs ++ []) H1 Q E0 := q
  rw [List.append_nil] at q
  have hl : us.length = ps.length := r.length.symm.trans (F.len _ _ _ _ q)
  have hb := b s1 us I1.kIn (by rw [List.append_nil]; exact hl)
  rw [List.append_nil] at hb
  refine ⟨I1.kIn, wpAny_call (codeAny_mono (F.run X.A X.stack s1 H1 ⟨us, []⟩ us vs Q E0 (hr.mono hk) hg0 I1.env0 hb r q) fun rr s' hq => ?_)⟩
  match rr, hq with
  | .error z, hq => exact passL pins σ H1 s1 z s' I1 hq
  | .ok (.ret u), hq => exact I1.after hq
  | .ok .next, hq => exact (show False from hq).elim
  | .ok .brk, hq => exact (show False from hq).elim
  | .ok .cont, hq => exact (show False from hq).elim
/-- what repr(..) of data gives -/
def rShow (K : PySem.W.Frag) : List V → Hp → VK → Prop := fun vs H Q => ∃ v d, vs = [v] ∧ Dp K H v d ∧ d.showable = true ∧ d.hasDict = false ∧ d.depth ≤ 60 ∧ d.shown.length ≤ sizeLine ∧ Q (.str d.shown) H
theorem call_repr (hg0 : X.A.guards = some []) (hr : Room k X.A) : CallR X (.builtin "repr") (rShow X.K) := by
  intro pins s σ H vs us Q I r h
  obtain ⟨v, d, rfl, hd, h1, h2, h3, h4, q⟩ := h
  obtain ⟨u, rfl, rv⟩ := vals1 r
  obtain ⟨as, R⟩ := Dp.reads I d v u hd rv
  cases R with
  | none => exact PySem.P.repr_of_none ⟨.str _, H, I.tok _, ⟨_, rfl⟩, q⟩
  | bool b => exact PySem.P.repr_of_bool ⟨.str _, H, I.tok _, ⟨_, rfl⟩, q⟩
  | int i t => exact PySem.P.repr_of_int (by simpa [PyData.showable] using h1) ⟨.str _, H, I.tok _, ⟨_, rfl⟩, q⟩
  | str x t => exact PySem.P.repr_of_str ⟨.str _, H, I.tok _, ⟨_, rfl⟩, q⟩ h4
  | list a b c e => 
    exact repr_of_reads' (.list a b c e) h1 (PyData.noDict_hsm h2) hg0 (by have := hr.units; omega) (fun _ _ z => z) (fun h' u tk hk => ⟨.str _, H, I.kept (t' := tk) hk, ⟨_, rfl⟩, q⟩) h4
  | tuple a b c e =>
    exact repr_of_reads' (.tuple a b c e) h1 (PyData.noDict_hsm h2) hg0 (by have := hr.units; omega) (fun _ _ z => z) (fun h' u tk hk => ⟨.str _, H, I.kept (t' := tk) hk, ⟨_, rfl⟩, q⟩) h4
  | dict => cases hd
end
/-! ### the law's end, for a law that shows -/
section
variable {P : Program} {w : World} {K : PySem.W.Frag} {mg mb : Str → Option Value} {k : Nat} {fa a : Addr} {fd : FuncData} {sp : Sp} {s1 : Shared} {us : List Value} {ns : List Int}
/-- from an abstract heap that tracks the script at most -/
theorem lawG_core {H : Hp} (KX : K.In s1.heap) (hns : s1.heap.Ns mainGlobals mg) (hb : s1.heap.Ns builtinsNs mb) (hbb : ∀ x : Str, x ≠ "__name__" → mb x = bootBuiltins x) (hlim : s1.heap.NoLimit) (hg : s1.gens = #[])
    (ha : s1.heap.get? a = some { cls := .type "list", data := .seq us.toArray }) (hr : Room k callerA)
    (F : ∀ base : Heap, K.In base → base.Ns mainGlobals mg → FnG P w K mg base k fa fd ["script"] sp) (hbind : ∀ (s : Shared) (u : Value), BindsTo s fd ⟨[u], []⟩ [("script", u)])
    (hO : Only H) (hok : HOk P w H s1.heap) (hA : ∀ b, H b ≠ none → b = a) (hK : H a ≠ none → K.lookup a = none) (hsp : sp [.ref a] H (fun v _ => v = .bl true) fun _ _ _ => False) :
    codeAny (model P w) callerA (.call (.ref fa) ⟨[.ref a], []⟩) (fun r s' => r = .ok (.ret (.bool true)) ∧ OldK s1.heap s'.heap ∧ s'.os = s1.os ∧ AllBare s'.gens) s1 := by
  have out : ∀ {b : Addr}, (∃ u, H b = some u) → b = a := fun {b} ⟨u, q⟩ => hA b fun z => by rw [z] at q; cases q
  have isn : ∀ {b : Addr}, b ≠ a → H b = none := fun {b} n => by
    cases q : H b with
    | none => rfl
    | some u => exact (n (out ⟨u, q⟩)).elim
  have nsK : ∀ {b : Addr} {m : Str → Option Value}, s1.heap.Ns b m → (hidT s1.heap H).Ns b m := by
    rintro b m ⟨o, es, ep, e, d, r⟩
    refine ⟨o, es, ep, hidT_get e (isn fun z => ?_), d, r⟩
    rw [z, ha] at e
    cases e
    have d' : Data.seq us.toArray _ = Data.dict es ep := d
    cases d'
  have hKb : K.In (hidT s1.heap H) := fun b o e => hidT_get (KX b o e) (by
    cases q : H b with
    | none => rfl
    | some u =>
      have z := out ⟨u, q⟩
      rw [z] at e q
      rw [hK (fun w => by rw [w] at q; cases q)] at e
      cases e)
  obtain ⟨mc, l1, l2⟩ := hlim
  have e0 : Env0 P w K mg (hidT s1.heap H) callerA [] s1 H :=
    { frames := rfl, mod := ⟨hKb, nsK hns, ⟨mb, nsK hb, hbb⟩, ⟨mc, nsK l1, l2⟩⟩, bs := fun b o e => of_hidT e, bsz := Nat.le_of_eq (hidT_size _ _), funs := trivial, frf := (fun b z => by cases z), hok := hok, bare := .of_eq hg }
  refine codeAny_mono ((F _ hKb (nsK hns)).run callerA [] s1 H ⟨[.ref a], []⟩ [.ref a] [.ref a] _ _ hr rfl e0 (hbind s1 (.ref a)) (.cons rfl .nil) hsp) fun r s' h => ?_
  match r, h with
  | .error e, h => exact (cx_none h).elim
  | .ok .next, h => exact (show False from h).elim
  | .ok .brk, h => exact (show False from h).elim
  | .ok .cont, h => exact (show False from h).elim
  | .ok (.ret u), ⟨v, H', os, bare, un, hok', r', q⟩ =>
    cases (show v = .bl true from q)
    cases (show u = Value.bool true from r')
    refine ⟨rfl, OldK.of_keep fun b o e => ?_, os, bare⟩
    rcases hO b with z | ⟨ob, xs, z⟩
    · exact un.keep b o e z (fun z => by cases z) (fun z => by cases z)
    · have e1 := (hok b _ z).1
      have e2 := (hok' b _ (un.frzs b ob _ z)).1
      rw [e1] at e
      cases e
      exact e2
theorem lawG_call {bits : Prop} (KX : K.In s1.heap) (hns : s1.heap.Ns mainGlobals mg) (hb : s1.heap.Ns builtinsNs mb) (hbb : ∀ x : Str, x ≠ "__name__" → mb x = bootBuiltins x) (hlim : s1.heap.NoLimit) (hg : s1.gens = #[])
    (ha : s1.heap.get? a = some { cls := .type "list", data := .seq us.toArray }) (hi : IntsAre us ns) (hl : ns.length ≤ sizeLine) (hr : Room k callerA)
    (F : ∀ base : Heap, K.In base → base.Ns mainGlobals mg → FnG P w K mg base k fa fd ["script"] sp) (hbind : ∀ (s : Shared) (u : Value), BindsTo s fd ⟨[u], []⟩ [("script", u)])
    (hsp : ∀ H : Hp, Only H → SqL K H a (ns.map V.int) → sp [.ref a] H (fun v _ => v = .bl true) fun _ _ _ => False) :
    codeAny (model P w) callerA (.call (.ref fa) ⟨[.ref a], []⟩) (fun r s' => r = .ok (.ret (.bool true)) ∧ OldK s1.heap s'.heap ∧ s'.os = s1.os ∧ AllBare s'.gens) s1 := by
  have rv := vals_ints hi
  cases hk : K.lookup a with
  | some o =>
    have e := KX a o hk
    rw [ha] at e
    cases e
    refine lawG_core (H := fun _ => none) KX hns hb hbb hlim hg ha hr F hbind (fun _ => .inl rfl) (fun b u z => by cases z) (fun b z => (z rfl).elim) (fun z => (z rfl).elim) (hsp _ (fun _ => .inl rfl) (.inr ⟨_, us.toArray, _, hk, rfl, rfl, rfl, ?_, by simpa using rv⟩))
    rw [List.size_toArray, hi.length]
    exact hl
  | none =>
    obtain ⟨H, eH⟩ : ∃ H : Hp, H = fun b => if b = a then some (.frz { cls := .type "list", data := .seq us.toArray } (.lst (ns.map V.int))) else none := ⟨_, rfl⟩
    have at_ : H a = some (.frz { cls := .type "list", data := .seq us.toArray } (.lst (ns.map V.int))) := by
      rw [eH]
      exact if_pos rfl
    have off : ∀ b, b ≠ a → H b = none := fun b n => by
      rw [eH]
      exact if_neg n
    have hO : Only H := fun b => by
      by_cases n : b = a
      · exact .inr ⟨_, _, by rw [n]; exact at_⟩
      · exact .inl (off b n)
    refine lawG_core (H := H) KX hns hb hbb hlim hg ha hr F hbind hO (fun b u z => ?_) (fun b z => Classical.byContradiction fun n => z (off b n)) (fun _ => hk) (hsp H hO (.inl (.inr ⟨_, at_⟩)))
    by_cases n : b = a
    · cases n
      rw [at_] at z
      cases z
      exact ⟨ha, by rw [List.length_map]; exact hl, us, _, rv, ha⟩
    · rw [off b n] at z
      cases z
end
theorem walk_G {l : PySem.W.OpenLaw} {k : Nat} {q : Program} {loose : List Str} {XP : (Str → Option Value) → Heap → Prop} {YP : World → Heap → Prop} {d : DefRec} {K : Params → PySem.W.Frag} {sp : World → Sp}
    (hn : l.most = some 63) (hdf : d.params.defaults = []) (hr : Room k callerA) (hY : ∀ (w : World) (h : Heap), YP w h → (K w.params).In h)
    (F : ∀ (w : World) (mg : Str → Option Value) (fa : Addr) (h : Heap), (K w.params).In h → h.Ns mainGlobals mg → mg d.name = some (.ref fa) →
      ∃ fd : FuncData, (∀ (s : Shared) (u : Value), BindsTo s fd ⟨[u], []⟩ [("script", u)]) ∧ ∀ base : Heap, (K w.params).In base → base.Ns mainGlobals mg → FnG l.prog w (K w.params) mg base k fa fd ["script"] (sp w))
    (hsp : ∀ (w : World) (H : Hp) (a : Addr) (ns : List Int), ns.length ≤ 63 → (∀ z ∈ ns, Builtin.Int.intBits z ≤ 1048576) → Only H → SqL (K w.params) H a (ns.map V.int) → sp w [.ref a] H (fun v _ => v = .bl true) fun _ _ _ => False) :
    PySem.W.WalkO q loose XP YP l.row.toRowW d [] (fun f vs => PySem.call f vs) := by
  refine Att.attach_callB hn hdf fun w s0 s1 mg mb fa o pm cd doc a vs ns G Y ho hd hcd hmg hobj hints hlen hbits hg => ?_
  have KX := hY w _ Y
  obtain ⟨fd, hb, hF⟩ := F w mg fa _ KX G.T.g hmg
  exact lawG_call (bits := True) KX G.T.g G.T.b G.T.builtins G.T.nolimit hg hobj hints (Nat.le_trans hlen (by decide)) hr hF hb fun H hO hS => hsp w H a ns hlen hbits hO hS
section
variable {P : Program} {w : World} {K : PySem.W.Frag} {mg : Str → Option Value} {h : Heap} {f : Addr} {st : Stmt}
theorem law_mkG {oc : Value} {od an : Option Addr} {osl : Array (Option Value)} {kV doc pm cdv ct : Value} {fa : Addr} {k : Nat} {sp : Sp} (X : K.In h) (G : h.Ns mainGlobals mg) (hfa : mg "law" = some (.ref fa)) (a : PySem.W.nsIn K mainGlobals "law" = some (some (.ref f)))
    (l : K.lookup f = some ⟨oc, od, .func (PySem.W.fnOf "law" "law" (defArgs st) (defBody st) (defScope st) .none kV doc pm an cdv ct), osl⟩) (c : PySem.W.codeIn K cdv "law" = true) (kp : PySem.W.keepIn K (.ref f) = true)
    (hb : ∀ (s : Shared) (v : Value), BindsTo s (PySem.W.fnOf "law" "law" (defArgs st) (defBody st) (defScope st) .none kV doc pm an cdv ct) ⟨[v], []⟩ [("script", v)])
    (ok : ∀ base : Heap, ∀ fd, Fun K "law" "law" st f fd → FnG P w K mg base k f fd ["script"] sp) :
    ∃ fd : FuncData, (∀ (s : Shared) (v : Value), BindsTo s fd ⟨[v], []⟩ [("script", v)]) ∧ ∀ base : Heap, K.In base → base.Ns mainGlobals mg → FnG P w K mg base k fa fd ["script"] sp := by
  have e := hfa.symm.trans (PySem.W.mg_of X G a)
  cases e
  exact ⟨_, hb, fun base _ _ => ok base _ (fun_mk (st := st) l c kp)⟩
end
end EM
namespace EM
open PySem PySem.Spec PyProof.Rows L2
/-! ### enumerate over a tuple, over a text -/
set_option maxHeartbeats 4000000 in
theorem meets_enum1 {v : Value} {o : Obj} {S : Heap → Prop} (B : Begins v o S) :
    Meets (Builtin.«enumerate.__new__» ⟨[.type "enumerate", v], []⟩) (fun _ R s => S s.heap ∧
      R (.ok (.ret (.ref (s.heap.push o).objs.size))) { s with heap := (s.heap.push o).push { cls := .type "enumerate", data := .fields #[.none, .bool false, .ref s.heap.objs.size, rawInt 0, .none, .none] } }) :=
  .of_wp fun prog w A R s h => by
    obtain ⟨hp, g, d, tk, os⟩ := s
    obtain ⟨z1, z2⟩ := h
    have sub := sub_enumerate
    have go : ∀ {A1 : Around} {E1 : Value → Shared → Prop} {Q1 : Value → Shared → Prop}, Q1 (.ref hp.objs.size) ⟨hp.push o, g, d, tk, os⟩ → wpAny (model prog w) A1 (pyIter v) Q1 E1 ⟨hp, g, d, tk, os⟩ := fun q => B.iter prog w _ _ ⟨hp, g, d, tk, os⟩ _ z1 q
    wp_walk using go
    refine wpAny_stack_any fun st => wpAny_pure ?_
    split
    · rename_i c _ _ _ _ _
      cases (c == Value.type "enumerate") <;> (wp_walk using go; exact ⟨_, rfl, z2⟩)
    · wp_walk using go
      exact ⟨_, rfl, z2⟩
section
variable {prog : Program} {w : World} {A : Around} {E : Value → Shared → Prop} {s : Shared}
theorem call_enum1 {v : Value} {o : Obj} {S : Heap → Prop} {Q : Value → Shared → Prop} (B : Begins v o S) (hS : S s.heap)
    (h : ∀ h', IsEnum h' (s.heap.objs.size + 1) s.heap.objs.size 0 .none → h'.get? s.heap.objs.size = some o → (∀ b u, s.heap.get? b = some u → h'.get? b = some u) → Q (.ref (s.heap.objs.size + 1)) { s with heap := h' }) :
    wpAny (model prog w) A (call (.type "enumerate") [v]) Q E s := by
  have sz : (s.heap.push o).objs.size = s.heap.objs.size + 1 := Heap.size_push ..
  refine callType_new F.called_enumerate (by decide) (F.typeCall_enumerate_1 _) (F.newCall_enumerate_1 _) (fun obj => F.args_object_init_2 obj _) F.entry_enumerate_new (meets_enum1 B) ⟨hS, ?_⟩
  show _ ∧ _
  rw [sz]
  have he : IsEnum ((s.heap.push o).push { cls := .type "enumerate", data := .fields #[.none, .bool false, .ref s.heap.objs.size, rawInt 0, .none, .none] }) (s.heap.objs.size + 1) s.heap.objs.size 0 .none := by
    have q := Heap.get?_push_size (s.heap.push o) (o := { cls := .type "enumerate", data := .fields #[.none, .bool false, .ref s.heap.objs.size, rawInt 0, .none, .none] }) rfl
    rwa [sz] at q
  exact ⟨⟨_, he, rfl⟩, h _ he (Heap.get?_push_of_some _ (Heap.get?_push_size _ B.free)) fun b u x => Heap.get?_push_of_some _ (Heap.get?_push_of_some _ x)⟩
end
/-- pairs (i, x) of what stands still: n items, the i-th one is x where Y i x; G: it stands -/
def IteG (G : Hp → Prop) (n : Nat) (Y : Nat → V → Prop) : It :=
  ⟨fun i H => G H ∧ i < n, fun i H v H' => ∃ T x, v = .ref T ∧ H T = none ∧ H' = upd H T (.tup [.int (i : Nat), x]) ∧ Y i x, fun i H => G H ∧ i = n⟩
/-- what is drawn by the iterator at it, where G stands -/
structure Src (P : Program) (w : World) (K : PySem.W.Frag) (it : Addr) (G : Hp → Prop) (n : Nat) (Y : Nat → V → Prop) (stat : Nat → Heap → Prop) : Prop where
  live : ∀ i h, stat i h → ∃ o, h.get? it = some o ∧ (∀ v, o.data ≠ .cell v) ∧ o.cls ≠ .type "enumerate"
  keep : ∀ i h h', stat i h → (∀ o, h.get? it = some o → h'.get? it = some o) → stat i h'
  draws : ∀ (X : Cx), X.prog = P → X.w = w → X.K = K → X.calm = true → ∀ (pins : List (Addr × Obj)) (s : Shared) (σ : L2.St) (H : Hp), Inv X pins σ H s → G H → (∃ i, stat i s.heap) →
    ∃ fp Pr Sx, Draws P w X.A.in1 it fp n Pr Sx ∧ (∀ i, stat i s.heap → Sx i s.heap) ∧ (∀ i h, Sx i h → stat i h) ∧ (∀ b ∈ fp, b ≠ it → ∃ o, s.heap.get? b = some o ∧ o.cls ≠ .type "enumerate") ∧ ∀ i u, Pr i u → ∃ x, RelV x u ∧ Y i x
theorem turn_enumG {P : Program} {w : World} {K : PySem.W.Frag} {elts : List Expr} {kk : Nat} {tpos : Pos} {e it : Addr} {G : Hp → Prop} {n : Nat} {Y : Nat → V → Prop} {stat : Nat → Heap → Prop} (S : Src P w K it G n Y stat) :
    Turn P w K (.Tuple elts kk tpos) (IteG G n Y) [e, it] e (fun i h => (∃ old, IsEnum h e it ((i : Nat) : Int) old) ∧ stat i h ∧ e ≠ it) where
  mem := by simp
  obj := fun i h st b hb => by
    obtain ⟨⟨old, he⟩, hst, _⟩ := st
    obtain ⟨o, ho, hc, _⟩ := S.live i h hst
    simp only [List.mem_cons, List.not_mem_nil, or_false] at hb
    rcases hb with rfl | rfl
    · exact ⟨_, he, fun v q => nomatch q⟩
    · exact ⟨o, ho, hc⟩
  keep := fun i h h' st k => ⟨let ⟨old, he⟩ := st.1; ⟨old, k e (by simp) _ he⟩, S.keep i h h' st.2.1 fun o q => k it (by simp) o q, st.2.2⟩
  item := by
    intro X hP hw hK hc i pins s σ H E I hf st hg
    obtain ⟨⟨old, he⟩, hst, hne⟩ := st
    obtain ⟨gH, hi⟩ := hg
    obtain ⟨fp, Pr, Sx, D, d1, d2, d3, d4⟩ := S.draws X hP hw hK hc pins s σ H I gH ⟨i, hst⟩
    subst hP hw hK
    have hef : e ∉ fp := fun z => by
      obtain ⟨o, q1, q2⟩ := d3 e z hne
      rw [show s.heap.get? e = _ from he] at q1
      cases q1
      exact q2 rfl
    have hel : e < s.heap.objs.size := Heap.lt_size he
    have hil : it < s.heap.objs.size := by
      obtain ⟨o, q, _⟩ := S.live i _ hst
      exact Heap.lt_size q
    refine wpAny_pyNext_enum_itemD D he (d1 i hst) hi hne hef fun u h' tk hPr ho hst' hT hsz hk => ?_
    obtain ⟨x, ru, yx⟩ := d4 i u hPr
    refine ⟨_, rfl, wpAny_letOwnedTupleGo_enum (s := { s with heap := h', toks := tk + 1 }) ho fun h'' he' sb => ?_⟩
    have hT2 : h''.get? s.heap.objs.size = some { cls := .type "tuple", data := .seq #[.int i tk, u] } := (sb.2 _ (Nat.ne_of_gt hel)).trans hT
    have new : ObjOk X.prog X.w (upd H s.heap.objs.size (.tup [.int (i : Nat), x])) h'' s.heap.objs.size (.tup [.int (i : Nat), x]) :=
      ⟨by show 2 ≤ sizeLine; decide, [.int i tk, u], .cons ⟨_, rfl⟩ (.cons ru .nil), ⟨_, hT2, rfl, _, rfl⟩⟩
    have I1 : Inv X pins σ (upd H s.heap.objs.size (.tup [.int (i : Nat), x])) { s with heap := h'', toks := tk + 1 } :=
      I.turnedNew (ch := [e, it]) (fun b ob hb q => (sb.2 b (fun z => hb (by simp [z]))).trans (hk b ob (fun z => hb (by simp [z])) (fun z => hb (by simp [z])) q)) hf (Nat.le_refl _) new
    refine ⟨.ref s.heap.objs.size, _, I1, rfl, ⟨_, x, rfl, I.hok.fresh (Nat.le_refl _), rfl, yx⟩, ⟨⟨u, ?_⟩, S.keep _ _ _ (d2 _ _ hst') fun o q => (sb.2 it (Ne.symm hne)).trans q, hne⟩, fun b hb => ?_⟩
    · rw [show ((i + 1 : Nat) : Int) = (i : Int) + 1 by omega]
      exact he'
    · have hb' : b < s.heap.objs.size := by
        simp only [List.mem_cons, List.not_mem_nil, or_false] at hb
        rcases hb with rfl | rfl
        · exact hel
        · exact hil
      rw [upd_ne (Nat.ne_of_lt hb')]
      exact (hf b hb).1
  done := by
    intro X hP hw hK hc i pins s σ H E I hf st hg
    obtain ⟨⟨old, he⟩, hst, hne⟩ := st
    obtain ⟨gH, hi⟩ := hg
    obtain ⟨fp, Pr, Sx, D, d1, d2, d3, d4⟩ := S.draws X hP hw hK hc pins s σ H I gH ⟨i, hst⟩
    subst hP hw hK
    subst hi
    obtain ⟨f0, f1, f2, f3, f4, f5⟩ := hf it (by simp)
    exact wpAny_pyNext_enum_endD D he (d1 _ hst) fun h' eb => ⟨rfl, I.turned (t' := s.toks) (fun b o hb q => eb b o hb q) f0 f1 f3 f4 f5⟩
  self := fun A i s Q E st h => let ⟨⟨_, he⟩, _⟩ := st; wpAny_pyIter_enum he h
theorem src_tuple {P : Program} {w : World} {K : PySem.W.Frag} {it a : Addr} {xs : List V} : Src P w K it (fun H => SqT K H a xs) xs.length (fun i x => xs[i]? = some x) (fun i h => h.IsTupleIter it a i) where
  live := fun i h ⟨o, ho, hc, hd⟩ => ⟨o, ho, (fun v z => by rw [hd] at z; cases z), (fun z => absurd (Value.type.inj (hc.symm.trans z)) (by decide))⟩
  keep := fun i h h' st k => st.at k
  draws := by
    intro X hP hw hK hc pins s σ H I gH ⟨i0, o0, ho0, hc0, hd0⟩
    subst hP hw hK
    obtain ⟨its, rv, p, hz⟩ := I.tuple gH
    obtain ⟨oa, ha, hca, _⟩ := id p
    have ne : a ≠ it := fun z => by
      rw [z, ho0] at ha
      cases ha
      exact absurd (Value.type.inj (hc0.symm.trans hca)) (by decide)
    have D := Draws.tuple (prog := X.prog) (w := X.w) (A := X.A.in1) (I.ok.hd hc) it a ne its.toArray
    rw [show its.toArray.size = xs.length by rw [List.size_toArray, rv.length]] at D
    refine ⟨_, _, _, D, fun i st => ⟨st, p⟩, fun i h st => st.1, fun b hb hn => ?_, fun i u hu => ?_⟩
    · simp only [List.mem_cons, List.not_mem_nil, or_false] at hb
      rcases hb with rfl | rfl
      · exact (hn rfl).elim
      · exact ⟨oa, ha, fun z => absurd (Value.type.inj (hca.symm.trans z)) (by decide)⟩
    · cases e : xs[i]? with
      | none =>
        have := rv.none_of e
        rw [List.getElem?_toArray] at hu
        rw [this] at hu
        cases hu
      | some x =>
        obtain ⟨u', hu', r⟩ := rv.get e
        rw [List.getElem?_toArray] at hu
        rw [hu'] at hu
        cases hu
        exact ⟨x, r, rfl⟩
theorem src_text {P : Program} {w : World} {K : PySem.W.Frag} {it : Addr} {z : Str} {t : Tok} : Src P w K it (fun _ => True) z.cps.size (fun i x => ∃ c, z.cps[i]? = some c ∧ x = .str ⟨#[c]⟩) (fun i h => h.IsStrIter it (strIterType z) z t i) where
  live := fun i h ⟨o, ho, hc, hd⟩ => ⟨o, ho, (fun v z => by rw [hd] at z; cases z), (fun q => by
    have q := Value.type.inj (hc.symm.trans q)
    unfold strIterType at q
    split at q <;> exact absurd q (by decide))⟩
  keep := fun i h h' st k => let ⟨o, q, r⟩ := st; ⟨o, k o q, r⟩
  draws := by
    intro X hP hw hK hc pins s σ H I gH _
    subst hP hw hK
    refine ⟨_, _, _, Draws.text (prog := X.prog) (w := X.w) (A := X.A.in1) (I.ok.hd hc) it z t, fun i st => st, fun i h st => st, fun b hb hn => ?_, fun i u hu => ?_⟩
    · simp only [List.mem_cons, List.not_mem_nil, or_false] at hb
      exact (hn hb).elim
    · obtain ⟨c, u', e1, e2⟩ := hu
      subst e2
      exact ⟨.str ⟨#[c]⟩, ⟨_, rfl⟩, c, e1, rfl⟩
def iEnumT (K : PySem.W.Frag) (ta : TA) : TI := fun σ H R => ta σ H fun vs H1 => ∃ a xs, vs = [.ref a] ∧ SqT K H1 a xs ∧ R (IteG (fun H => SqT K H a xs) xs.length (fun i x => xs[i]? = some x)) H1
def iEnumS (ta : TA) : TI := fun σ H R => ta σ H fun vs H1 => ∃ z, vs = [.str z] ∧ R (IteG (fun _ => True) z.cps.size (fun i x => ∃ c, z.cps[i]? = some c ∧ x = .str ⟨#[c]⟩)) H1
section
variable {X : Cx} {e : Expr} {ta : TA} {p pos tpos : Pos} {elts : List Expr} {kk : Nat}
theorem enum_fp {pins : List (Addr × Obj)} {σ : L2.St} {H : Hp} {s : Shared} (I : Inv X pins σ H s) : ∀ b ∈ [s.heap.objs.size + 1, s.heap.objs.size], FpOk X pins H b := fun b hb => by
  have hle : s.heap.objs.size ≤ b := by
    simp only [List.mem_cons, List.not_mem_nil, or_false] at hb
    omega
  exact I.fpOk hle (I.hok.fresh hle)
theorem pi_enumT (hg : Gl X "enumerate") (hm : X.mg "enumerate" = none) (ha : PA X [e] ta) (hs : starEach [e] X.env = [(false, eval e X.env)] := by rfl) :
    PI X (.Tuple elts kk tpos) (.Call (.Name "enumerate" p) [e] [] pos) (iEnumT X.K ta) := by
  refine ⟨fun pins s σ H R I h => Call_ (ld_blt I hg hm boot_enumerate (PyProof.Rows.callWith_type1 (thn (ha.run pos pins s σ H _ I h) fun us s1 hh => ?_) hs rfl))⟩
  obtain ⟨vs, H1, I1, r1, a, xs, ex, hq, q⟩ := hh
  subst ex
  obtain ⟨u, rfl, ru⟩ := vals1 r1
  cases ru
  obtain ⟨its, rv, p', hz⟩ := I1.tuple hq
  refine call_enum1 (begins_tuple a its.toArray) p' fun h' he hit hk => wpAny_pyIter_enum he ?_
  exact ⟨s1.heap.objs.size + 1, _, _, _, H1, rfl, I1.kept (t' := s1.toks) hk, turn_enumG (src_tuple (a := a) (xs := xs)), ⟨⟨.none, he⟩, ⟨_, hit, rfl, rfl⟩, Nat.succ_ne_self _⟩, enum_fp I1, q⟩
theorem pi_enumS (hg : Gl X "enumerate") (hm : X.mg "enumerate" = none) (ha : PA X [e] ta) (hs : starEach [e] X.env = [(false, eval e X.env)] := by rfl) :
    PI X (.Tuple elts kk tpos) (.Call (.Name "enumerate" p) [e] [] pos) (iEnumS ta) := by
  refine ⟨fun pins s σ H R I h => Call_ (ld_blt I hg hm boot_enumerate (PyProof.Rows.callWith_type1 (thn (ha.run pos pins s σ H _ I h) fun us s1 hh => ?_) hs rfl))⟩
  obtain ⟨vs, H1, I1, r1, z, ex, q⟩ := hh
  subst ex
  obtain ⟨u, rfl, ru⟩ := vals1 r1
  obtain ⟨t, rfl⟩ := ru
  refine call_enum1 (begins_text z t) trivial fun h' he hit hk => wpAny_pyIter_enum he ?_
  exact ⟨s1.heap.objs.size + 1, _, _, _, H1, rfl, I1.kept (t' := s1.toks) hk, turn_enumG (src_text (z := z) (t := t)), ⟨⟨.none, he⟩, ⟨_, hit, rfl, rfl⟩, Nat.succ_ne_self _⟩, enum_fp I1, q⟩
end
/-- the reading of a for over such pairs -/
theorem for_G {G : Hp → Prop} {n : Nat} {Y : Nat → V → Prop} {g : TG} {tb : TS} {D : Ends} {σ : L2.St} {H : Hp} (Pv : Nat → L2.St → Hp → Prop) (h0 : Pv 0 σ H) (hG : ∀ i σ H, i ≤ n → Pv i σ H → G H)
    (hs : ∀ i T x σ H, i < n → Y i x → H T = none → Pv i σ H → g (.ref T) σ (upd H T (.tup [.int (i : Nat), x])) fun σ2 H2 => tb { D with nx := Pv (i + 1), ct := Pv (i + 1), bk := D.nx } σ2 H2) (hd : ∀ σ H, Pv n σ H → D.nx σ H) :
    ∃ W : Nat → Nat → L2.St → Hp → Prop, (∃ m, W 0 m σ H) ∧ ∀ i m σ H, W i m σ H →
      ((IteG G n Y).stop i H ∧ D.nx σ H) ∨ ((IteG G n Y).go i H ∧ ∃ N : L2.St → Hp → Prop, (∀ σ' H', N σ' H' → ∃ m', m' < m ∧ W (i + 1) m' σ' H') ∧ ∀ x H', (IteG G n Y).yld i H x H' → g x σ H' fun σ2 H2 => tb { D with nx := N, ct := N, bk := D.nx } σ2 H2) := by
  refine ⟨fun i m σ H => m = n - i ∧ i ≤ n ∧ Pv i σ H, ⟨n, rfl, Nat.zero_le _, h0⟩, ?_⟩
  rintro i m σ H ⟨rfl, hi, p⟩
  have gH := hG i σ H hi p
  rcases Nat.lt_or_ge i n with l | l
  · refine .inr ⟨⟨gH, l⟩, Pv (i + 1), fun σ' H' p' => ⟨n - (i + 1), by omega, rfl, l, p'⟩, fun x H' y => ?_⟩
    obtain ⟨T, v, rfl, nT, rfl, yv⟩ := y
    exact hs i T v σ H l yv nT p
  · have e : i = n := Nat.le_antisymm hi l
    subst e
    exact .inl ⟨⟨gH, rfl⟩, hd σ H p⟩
/-- the reading of a comprehension over such pairs -/
theorem lc_G {G : Hp → Prop} {n : Nat} {Y : Nat → V → Prop} {g : TG} {tt : TT} {te : TE} {vs : List Nat} {σ : L2.St} {H1 : Hp} {D : Addr} {Qd : Hp → Prop} (Pv : Nat → Hp → Prop) (h0 : Pv 0 (upd H1 D (.lst []))) (hG : ∀ i H, i ≤ n → Pv i H → G H)
    (hs : ∀ i T x H, i < n → Y i x → H T = none → Pv i H → g (.ref T) (wipe σ vs) (upd H T (.tup [.int (i : Nat), x])) fun σ2 H2 => wipe σ2 vs = wipe σ vs ∧ tt σ2 H2 fun b H3 =>
      if b = true then te σ2 H3 fun y H4 => ∃ acc, H4 D = some (.lst acc) ∧ acc.length < sizeLine ∧ Pv (i + 1) (upd H4 D (.lst (acc ++ [y]))) else Pv (i + 1) H3) (hd : ∀ H, Pv n H → Qd H) :
    ∃ W : Nat → Nat → Hp → Prop, (∃ m, W 0 m (upd H1 D (.lst []))) ∧ ∀ i m H, W i m H →
      ((IteG G n Y).stop i H ∧ Qd H) ∨ ((IteG G n Y).go i H ∧ ∃ Nx : Hp → Prop, (∀ H', Nx H' → ∃ m', m' < m ∧ W (i + 1) m' H') ∧ ∀ x H', (IteG G n Y).yld i H x H' → g x (wipe σ vs) H' fun σ2 H2 => wipe σ2 vs = wipe σ vs ∧ tt σ2 H2 fun b H3 =>
        if b = true then te σ2 H3 fun y H4 => ∃ acc, H4 D = some (.lst acc) ∧ acc.length < sizeLine ∧ Nx (upd H4 D (.lst (acc ++ [y]))) else Nx H3) := by
  refine ⟨fun i m H => m = n - i ∧ i ≤ n ∧ Pv i H, ⟨n, rfl, Nat.zero_le _, h0⟩, ?_⟩
  rintro i m H ⟨rfl, hi, p⟩
  have gH := hG i H hi p
  rcases Nat.lt_or_ge i n with l | l
  · refine .inr ⟨⟨gH, l⟩, Pv (i + 1), fun H' p' => ⟨n - (i + 1), by omega, rfl, l, p'⟩, fun x H' y => ?_⟩
    obtain ⟨T, v, rfl, nT, rfl, yv⟩ := y
    exact hs i T v H l yv nT p
  · have e : i = n := Nat.le_antisymm hi l
    subst e
    exact .inl ⟨⟨gH, rfl⟩, hd H p⟩
/-- the reading of a for over enumerate of a list -/
theorem for_E {K : PySem.W.Frag} {a : Addr} {xs : List V} {g : TG} {tb : TS} {D : Ends} {σ : L2.St} {H : Hp} (Pv : Nat → L2.St → Hp → Prop) (h0 : Pv 0 σ H) (hl : ∀ i σ H, i ≤ xs.length → Pv i σ H → SqL K H a xs)
    (hs : ∀ i T x σ H, xs[i]? = some x → H T = none → Pv i σ H → g (.ref T) σ (upd H T (.tup [.int (i : Nat), x])) fun σ2 H2 => tb { D with nx := Pv (i + 1), ct := Pv (i + 1), bk := D.nx } σ2 H2) (hd : ∀ σ H, Pv xs.length σ H → D.nx σ H) :
    ∃ W : Nat → Nat → L2.St → Hp → Prop, (∃ m, W 0 m σ H) ∧ ∀ i m σ H, W i m σ H →
      ((Ite K a).stop i H ∧ D.nx σ H) ∨ ((Ite K a).go i H ∧ ∃ N : L2.St → Hp → Prop, (∀ σ' H', N σ' H' → ∃ m', m' < m ∧ W (i + 1) m' σ' H') ∧ ∀ x H', (Ite K a).yld i H x H' → g x σ H' fun σ2 H2 => tb { D with nx := N, ct := N, bk := D.nx } σ2 H2) := by
  refine ⟨fun i m σ H => m = xs.length - i ∧ i ≤ xs.length ∧ Pv i σ H, ⟨_, rfl, Nat.zero_le _, h0⟩, ?_⟩
  rintro i m σ H ⟨rfl, hi, p⟩
  have hS := hl i σ H hi p
  rcases Nat.lt_or_ge i xs.length with l | l
  · refine .inr ⟨⟨xs, xs[i], hS, List.getElem?_eq_getElem l⟩, Pv (i + 1), fun σ' H' p' => ⟨xs.length - (i + 1), by omega, rfl, l, p'⟩, fun x H' y => ?_⟩
    obtain ⟨T, v, rfl, nT, rfl, yv⟩ := y
    exact hs i T v σ H (yv xs hS) nT p
  · have e : i = xs.length := Nat.le_antisymm hi l
    subst e
    exact .inl ⟨⟨xs, hS, Nat.le_refl _⟩, hd σ H p⟩
/-- the reading of a comprehension over enumerate of a list -/
theorem lc_E {K : PySem.W.Frag} {a : Addr} {xs : List V} {g : TG} {tt : TT} {te : TE} {vs : List Nat} {σ : L2.St} {H1 : Hp} {D : Addr} {Qd : Hp → Prop} (Pv : Nat → Hp → Prop) (h0 : Pv 0 (upd H1 D (.lst []))) (hl : ∀ i H, i ≤ xs.length → Pv i H → SqL K H a xs)
    (hs : ∀ i T x H, xs[i]? = some x → H T = none → Pv i H → g (.ref T) (wipe σ vs) (upd H T (.tup [.int (i : Nat), x])) fun σ2 H2 => wipe σ2 vs = wipe σ vs ∧ tt σ2 H2 fun b H3 =>
      if b = true then te σ2 H3 fun y H4 => ∃ acc, H4 D = some (.lst acc) ∧ acc.length < sizeLine ∧ Pv (i + 1) (upd H4 D (.lst (acc ++ [y]))) else Pv (i + 1) H3) (hd : ∀ H, Pv xs.length H → Qd H) :
    ∃ W : Nat → Nat → Hp → Prop, (∃ m, W 0 m (upd H1 D (.lst []))) ∧ ∀ i m H, W i m H →
      ((Ite K a).stop i H ∧ Qd H) ∨ ((Ite K a).go i H ∧ ∃ Nx : Hp → Prop, (∀ H', Nx H' → ∃ m', m' < m ∧ W (i + 1) m' H') ∧ ∀ x H', (Ite K a).yld i H x H' → g x (wipe σ vs) H' fun σ2 H2 => wipe σ2 vs = wipe σ vs ∧ tt σ2 H2 fun b H3 =>
        if b = true then te σ2 H3 fun y H4 => ∃ acc, H4 D = some (.lst acc) ∧ acc.length < sizeLine ∧ Nx (upd H4 D (.lst (acc ++ [y]))) else Nx H3) := by
  refine ⟨fun i m H => m = xs.length - i ∧ i ≤ xs.length ∧ Pv i H, ⟨_, rfl, Nat.zero_le _, h0⟩, ?_⟩
  rintro i m H ⟨rfl, hi, p⟩
  have hS := hl i H hi p
  rcases Nat.lt_or_ge i xs.length with l | l
  · refine .inr ⟨⟨xs, xs[i], hS, List.getElem?_eq_getElem l⟩, Pv (i + 1), fun H' p' => ⟨xs.length - (i + 1), by omega, rfl, l, p'⟩, fun x H' y => ?_⟩
    obtain ⟨T, v, rfl, nT, rfl, yv⟩ := y
    exact hs i T v H (yv xs hS) nT p
  · have e : i = xs.length := Nat.le_antisymm hi l
    subst e
    exact .inl ⟨⟨xs, hS, Nat.le_refl _⟩, hd H p⟩
/-- a list in the making at a new place: all that was is as it was -/
structure Mk (H : Hp) (D : Addr) (acc : List V) (H' : Hp) : Prop where
  same : Same H H'
  at_ : H' D = some (.lst acc)
theorem Mk.start {H : Hp} {D : Addr} (n : H D = none) : Mk H D [] (upd H D (.lst [])) := ⟨same_new n, upd_same⟩
theorem Mk.next {H H1 H2 : Hp} {D : Addr} {acc : List V} (m : Mk H D acc H1) (s : Same H1 H2) : Mk H D acc H2 := ⟨m.same.trans s, s _ _ m.at_⟩
theorem Mk.push {H H1 : Hp} {D : Addr} {acc : List V} (n : H D = none) (m : Mk H D acc H1) (y : V) : Mk H D (acc ++ [y]) (upd H1 D (.lst (acc ++ [y]))) :=
  ⟨fun b o hb => by
    have : b ≠ D := fun z => by rw [z, n] at hb; cases hb
    rw [upd_ne this]
    exact m.same b o hb, upd_same⟩
theorem Mk.keep {H H1 : Hp} {D : Addr} {acc : List V} (m : Mk H D acc H1) : Keep H H1 := Keep.of m.same
/-! ### rules whose reading speaks of the written part, for a comprehension's block -/
section
variable {X : Cx} {K : PySem.W.Frag}
theorem kIx {r : PySem.W.Frag → R2} (i : IxR X (r X.K)) (h : X.K = K) : IxR X (r K) := h ▸ i
theorem kOp {r : PySem.W.Frag → R2} {f : Value → Value → Sem Value} (i : OpR X f (r X.K)) (h : X.K = K) : OpR X f (r K) := h ▸ i
theorem kCall {r : PySem.W.Frag → List V → Hp → VK → Prop} {f : Value} (i : CallR X f (r X.K)) (h : X.K = K) : CallR X f (r K) := h ▸ i
theorem kTg {n : Nat} {t : TGs} {e : Expr} (i : PG X e (gTup X.K n t)) (h : X.K = K) : PG X e (gTup K n t) := h ▸ i
def rLenSeq (K : PySem.W.Frag) : List V → Hp → VK → Prop := fun xs H Q => ∃ p ys, xs = [.ref p] ∧ (SqL K H p ys ∨ SqT K H p ys) ∧ Q (.int ys.length) H
theorem bIxT (h : X.K = K) : IxR X (rIxT K) := kIx (r := rIxT) ix_tup h
theorem bIxL (h : X.K = K) : IxR X (rIxL K) := kIx (r := rIxL) ix_list h
theorem bIx (h : X.K = K) : IxR X (rIx K) := kIx (r := rIx) ix_seq h
theorem bLen (h : X.K = K) : CallR X (.builtin "len") (rLenSeq K) := kCall (r := rLenSeq) call_len_seq h
theorem bIsi (h : X.K = K) : CallR X (.builtin "isinstance") (rIsi K) := kCall (r := rIsi) call_isi h
theorem bAll (hc : X.calm = true) (h : X.K = K) : CallR X (.builtin "all") (rAll K) := kCall (r := rAll) (cr_all hc) h
theorem bAny (hc : X.calm = true) (h : X.K = K) : CallR X (.builtin "any") (rAny K) := kCall (r := rAny) (cr_any hc) h
theorem bIn (h : X.K = K) : OpR X (compareOp .In) (rIn K false) := kOp (r := fun K => rIn K false) op_in_seq h
theorem bNotIn (h : X.K = K) : OpR X (compareOp .NotIn) (rIn K true) := kOp (r := fun K => rIn K true) op_notIn_seq h
theorem bEqD (hu : X.A.units + 64 < cLine) (h : X.K = K) : OpR X (compareOp .Eq) (rEqD K) := kOp (r := rEqD) (op_eqD hu) h
theorem bNeD (hu : X.A.units + 64 < cLine) (h : X.K = K) : OpR X (compareOp .NotEq) (rNeD K) := kOp (r := rNeD) (op_neD hu) h
end
end EM
namespace EM
open PySem PySem.Spec PyProof.Rows L2
open PySem.W (maxD AlikeAll max_list_default dataLt dataLt_int)
/-! ### max(xs, default=d) of ints -/
def rMaxDf (K : PySem.W.Frag) (d : Int) : List V → List V → Hp → VK → Prop := fun vs zs H Q => ∃ (a : Addr) (ns : List Int), vs = [V.ref a] ∧ zs = [.int d] ∧ SqL K H a (ns.map V.int) ∧
  ∀ m, (ns = [] → m = d) → (∀ x ∈ ns, x ≤ m) → (ns ≠ [] → m ∈ ns) → Q (.int m) H
theorem maxD_intsM : ∀ (xs : List Int) (x : Int), ∃ m : Int, maxD (.int x) (xs.map PyData.int) = .int m ∧ m ∈ x :: xs ∧ ∀ y ∈ x :: xs, y ≤ m
  | [], x => ⟨x, rfl, List.mem_cons_self .., fun y hy => by
      rcases List.mem_cons.mp hy with rfl | h
      · exact Int.le_refl _
      · cases h⟩
  | z :: r, x => by
    have e : maxD (.int x) ((z :: r).map PyData.int) = maxD (if dataLt (.int x) (.int z) then .int z else .int x) (r.map PyData.int) := rfl
    rw [e, dataLt_int]
    by_cases c : x < z
    · obtain ⟨m, h1, h2, h3⟩ := maxD_intsM r z
      refine ⟨m, by rw [decide_eq_true c, if_pos rfl, h1], List.mem_cons_of_mem _ h2, fun y hy => ?_⟩
      rcases List.mem_cons.mp hy with rfl | h
      · have := h3 z (List.mem_cons_self ..)
        omega
      · exact h3 y h
    · obtain ⟨m, h1, h2, h3⟩ := maxD_intsM r x
      refine ⟨m, by rw [decide_eq_false c, if_neg Bool.false_ne_true, h1], ?_, fun y hy => ?_⟩
      · rcases List.mem_cons.mp h2 with rfl | h
        · exact List.mem_cons_self ..
        · exact List.mem_cons_of_mem _ (List.mem_cons_of_mem _ h)
      · rcases List.mem_cons.mp hy with rfl | h
        · exact h3 y (List.mem_cons_self ..)
        · rcases List.mem_cons.mp h with rfl | h
          · have := h3 x (List.mem_cons_self ..)
            omega
          · exact h3 y (List.mem_cons_of_mem _ h)
theorem alike_ints (ns : List Int) : AlikeAll (ns.map PyData.int) := by
  refine ⟨fun x hx y hy => ?_, fun x hx => ?_⟩
  · obtain ⟨a, _, rfl⟩ := List.mem_map.mp hx
    obtain ⟨b, _, rfl⟩ := List.mem_map.mp hy
    rfl
  · obtain ⟨a, _, rfl⟩ := List.mem_map.mp hx
    intro z
    cases z
theorem depth_ints : ∀ ns : List Int, PyData.depthAll (ns.map PyData.int) = 0
  | [] => by simp only [List.map_nil, PyData.depthAll]
  | n :: r => by simp only [List.map_cons, PyData.depthAll, PyData.depth, depth_ints r, Nat.max_self]
theorem dpAll_ints {K : PySem.W.Frag} {H : Hp} : ∀ ns : List Int, DpAll K H (ns.map V.int) (ns.map PyData.int)
  | [] => .nil
  | n :: r => .cons (.int n) (dpAll_ints r)
theorem cr_maxDf {X : Cx} {d : Int} (hc : X.calm = true) (hu : X.A.units + 64 < cLine) : CallRK X (.builtin "max") [Str.ofString "default"] (rMaxDf X.K d) := by
  intro pins s σ H vs zs us ws Q I r rz h
  obtain ⟨a, ns, rfl, rfl, hs, q⟩ := h
  obtain rfl := Vals.ref1 r
  obtain ⟨w1, rfl, t, rfl⟩ := vals1 rz
  obtain ⟨its, rv, hl, hz⟩ := I.list hs
  obtain ⟨as, hr⟩ := Dp.readsAll I (ns.map PyData.int) _ its (dpAll_ints ns) rv
  refine PySem.W.max_list_default (xs := ns.map PyData.int) (I.ok.hd hc) hl.isList hr (alike_ints ns) (by rw [depth_ints]; omega) (fun e h' tk hk => ?_) (fun y ys i v h' tk bs e hv hrv hk => ?_)
  · have e : ns = [] := List.map_eq_nil_iff.mp e
    exact ⟨.int d, H, I.kept hk, ⟨t, rfl⟩, q d (fun _ => rfl) (fun x hx => by rw [e] at hx; cases hx) fun z => (z e).elim⟩
  · cases ns with
    | nil => cases e
    | cons n r =>
      cases e
      obtain ⟨m, h1, h2, h3⟩ := maxD_intsM r n
      rw [h1] at hrv
      cases hrv with
      | int _ t' => exact ⟨.int m, H, I.kept hk, ⟨t', rfl⟩, q m (fun z => by cases z) h3 fun _ => h2⟩
end EM

namespace EM
open PySem PySem.Spec PyProof.Rows L2
/-! ### shapes: plain -/
/-- the least widths: 1, 2, 3, 5, 8 .. -/
def leastW : Nat → Nat
  | 0 => 1
  | 1 => 2
  | n + 2 => leastW (n + 1) + leastW n
theorem leastW_pos : ∀ n, 0 < leastW n
  | 0 => by decide
  | 1 => by decide
  | n + 2 => by
    have := leastW_pos (n + 1)
    show 0 < leastW (n + 1) + leastW n
    omega
theorem leastW_step : ∀ n, leastW n < leastW (n + 1)
  | 0 => by decide
  | n + 1 => by
    have := leastW_pos n
    show leastW (n + 1) < leastW (n + 1) + leastW n
    omega
theorem leastW_mono {a b : Nat} (h : a ≤ b) : leastW a ≤ leastW b := by
  induction h with
  | refl => exact Nat.le_refl _
  | step _ ih => exact Nat.le_of_lt (Nat.lt_of_le_of_lt ih (leastW_step _))
theorem leastW_lt : ∀ n, n < leastW n
  | 0 => by decide
  | n + 1 => by
    have := leastW_lt n
    have := leastW_step n
    omega
/-- h is the greatest height of a balanced shape of the width w -/
def IsTall (w h : Nat) : Prop := w < leastW (h + 1) ∧ (h = 0 ∨ leastW h ≤ w)
theorem IsTall.le {w h g : Nat} (a : IsTall w h) (b : IsTall w g) : h ≤ g := by
  rcases a.2 with e | e
  · omega
  · refine Nat.le_of_not_lt fun l => ?_
    have := leastW_mono (show g + 1 ≤ h from l)
    have := b.1
    omega
theorem IsTall.uniq {w h g : Nat} (a : IsTall w h) (b : IsTall w g) : h = g := Nat.le_antisymm (a.le b) (b.le a)
theorem IsTall.lt {w h : Nat} (a : IsTall w h) : h ≤ w := by
  rcases a.2 with e | e
  · omega
  · have := leastW_lt h
    omega
/-- things that may be shapes -/
inductive Th where
  | one
  | pair (a b : Th)
  | other
def Th.wid : Th → Nat
  | .one => 1
  | .pair a b => a.wid + b.wid
  | .other => 0
def Th.hgt : Th → Nat
  | .one => 0
  | .pair a b => 1 + max a.hgt b.hgt
  | .other => 0
def Th.sh : Th → Bool
  | .one => true
  | .pair a b => a.sh && b.sh
  | .other => false
/-- abs(x - y), as the built-in tells it -/
def farI (x y : Int) : Int := if x - y < 0 then -(x - y) else x - y
theorem farI_lt {x y : Int} : 1 < farI x y ↔ ¬ (x ≤ y + 1 ∧ y ≤ x + 1) := by
  unfold farI
  split <;> omega
/-- the height of a balanced shape, -1 else -/
def Th.bal : Th → Int
  | .one => 0
  | .pair a b => if min a.bal b.bal < 0 ∨ 1 < farI a.bal b.bal then -1 else 1 + max a.bal b.bal
  | .other => -1
/-- the width to a height m, 0 for what is no shape -/
def Th.win : Th → Nat → Nat
  | .one, _ => 1
  | .pair a b, m + 1 => if a.win m = 0 ∨ b.win m = 0 ∨ 20000 < a.win m + b.win m then 0 else a.win m + b.win m
  | .pair _ _, 0 => 0
  | .other, _ => 0
theorem Th.win_le : ∀ (t : Th) (m : Nat), t.win m ≤ 20000
  | .one, m => by
    cases m <;> (show 1 ≤ 20000; decide)
  | .pair a b, m + 1 => by
    show (if a.win m = 0 ∨ b.win m = 0 ∨ 20000 < a.win m + b.win m then 0 else a.win m + b.win m) ≤ 20000
    split <;> omega
  | .pair _ _, 0 => Nat.zero_le _
  | .other, m => by cases m <;> exact Nat.zero_le _
theorem Th.wid_pos : ∀ (t : Th), t.sh = true → 0 < t.wid
  | .one, _ => by decide
  | .pair a b, h => by
    have h : (a.sh && b.sh) = true := h
    rw [Bool.and_eq_true] at h
    have := a.wid_pos h.1
    show 0 < a.wid + b.wid
    omega
  | .other, h => by cases h
/-- of a shape the function tells the width, of all else 0 -/
theorem Th.win_eq : ∀ (t : Th) (m : Nat), t.win m = if t.sh = true ∧ t.hgt ≤ m ∧ t.wid ≤ 20000 then t.wid else 0
  | .one, m => by cases m <;> rfl
  | .other, m => by cases m <;> rfl
  | .pair a b, 0 => by
    show 0 = _
    rw [if_neg]
    rintro ⟨_, h, _⟩
    have h : 1 + max a.hgt b.hgt ≤ 0 := h
    omega
  | .pair a b, m + 1 => by
    show (if a.win m = 0 ∨ b.win m = 0 ∨ 20000 < a.win m + b.win m then 0 else a.win m + b.win m) = if (a.sh && b.sh) = true ∧ 1 + max a.hgt b.hgt ≤ m + 1 ∧ a.wid + b.wid ≤ 20000 then a.wid + b.wid else 0
    rw [a.win_eq m, b.win_eq m]
    simp only [Bool.and_eq_true]
    by_cases ha : a.sh = true ∧ a.hgt ≤ m ∧ a.wid ≤ 20000
    · by_cases hb : b.sh = true ∧ b.hgt ≤ m ∧ b.wid ≤ 20000
      · have p1 := a.wid_pos ha.1
        have p2 := b.wid_pos hb.1
        rw [if_pos ha, if_pos hb]
        by_cases hw : a.wid + b.wid ≤ 20000
        · rw [if_neg (by omega), if_pos ⟨⟨ha.1, hb.1⟩, by omega, hw⟩]
        · rw [if_pos (by omega), if_neg (fun h => hw h.2.2)]
      · rw [if_neg hb, if_pos (.inr (.inl rfl)), if_neg]
        rintro ⟨⟨_, h1⟩, h2, h3⟩
        exact hb ⟨h1, by omega, by omega⟩
    · rw [if_neg ha, if_pos (.inl rfl), if_neg]
      rintro ⟨⟨h1, _⟩, h2, h3⟩
      exact ha ⟨h1, by omega, by omega⟩
/-- a shape that is balanced -/
def Th.isBal : Th → Bool
  | .one => true
  | .pair a b => a.isBal && b.isBal && decide (a.hgt ≤ b.hgt + 1) && decide (b.hgt ≤ a.hgt + 1)
  | .other => false
theorem Th.bal_eq : ∀ t : Th, t.bal = if t.isBal = true then (t.hgt : Int) else -1
  | .one => rfl
  | .other => rfl
  | .pair a b => by
    show (if min a.bal b.bal < 0 ∨ 1 < farI a.bal b.bal then (-1 : Int) else 1 + max a.bal b.bal) = if (a.isBal && b.isBal && decide (a.hgt ≤ b.hgt + 1) && decide (b.hgt ≤ a.hgt + 1)) = true then ((1 + max a.hgt b.hgt : Nat) : Int) else -1
    rw [a.bal_eq, b.bal_eq]
    simp only [Bool.and_eq_true, decide_eq_true_eq, farI_lt]
    by_cases ha : a.isBal = true
    · by_cases hb : b.isBal = true
      · simp only [ha, hb, if_true, true_and]
        by_cases hd : a.hgt ≤ b.hgt + 1 ∧ b.hgt ≤ a.hgt + 1
        · have h1 : ¬ (min (a.hgt : Int) b.hgt < 0 ∨ ¬ ((a.hgt : Int) ≤ b.hgt + 1 ∧ (b.hgt : Int) ≤ a.hgt + 1)) := by omega
          rw [if_neg h1, if_pos hd]
          omega
        · have h1 : (min (a.hgt : Int) b.hgt < 0 ∨ ¬ ((a.hgt : Int) ≤ b.hgt + 1 ∧ (b.hgt : Int) ≤ a.hgt + 1)) := by omega
          rw [if_pos h1, if_neg hd]
      · rw [if_neg (show ¬ (((a.isBal = true ∧ b.isBal = true) ∧ a.hgt ≤ b.hgt + 1) ∧ b.hgt ≤ a.hgt + 1) from fun h => hb h.1.1.2), if_neg hb]
        exact if_pos (.inl (by omega))
    · rw [if_neg (show ¬ (((a.isBal = true ∧ b.isBal = true) ∧ a.hgt ≤ b.hgt + 1) ∧ b.hgt ≤ a.hgt + 1) from fun h => ha h.1.1.1), if_neg ha]
      exact if_pos (.inl (by split <;> omega))
theorem Th.bal_sh : ∀ t : Th, t.isBal = true → t.sh = true
  | .one, _ => rfl
  | .other, h => by cases h
  | .pair a b, h => by
    have h : (a.isBal && b.isBal && decide (a.hgt ≤ b.hgt + 1) && decide (b.hgt ≤ a.hgt + 1)) = true := h
    simp only [Bool.and_eq_true] at h
    show (a.sh && b.sh) = true
    rw [a.bal_sh h.1.1.1, b.bal_sh h.1.1.2]
    rfl
theorem Th.least_wid : ∀ t : Th, t.isBal = true → leastW t.hgt ≤ t.wid
  | .one, _ => by decide
  | .other, h => by cases h
  | .pair a b, h => by
    have h : (a.isBal && b.isBal && decide (a.hgt ≤ b.hgt + 1) && decide (b.hgt ≤ a.hgt + 1)) = true := h
    simp only [Bool.and_eq_true, decide_eq_true_eq] at h
    have ha := a.least_wid h.1.1.1
    have hb := b.least_wid h.1.1.2
    show leastW (1 + max a.hgt b.hgt) ≤ a.wid + b.wid
    have key : ∀ m, leastW (1 + m) ≤ leastW m + leastW (m - 1) := fun m => by
      cases m with
      | zero => decide
      | succ n =>
        rw [Nat.add_comm 1 (n + 1)]
        exact Nat.le_refl _
    rcases Nat.le_total a.hgt b.hgt with l | l
    · rw [Nat.max_eq_right l]
      have := key b.hgt
      have := leastW_mono (show b.hgt - 1 ≤ a.hgt by omega)
      omega
    · rw [Nat.max_eq_left l]
      have := key a.hgt
      have := leastW_mono (show a.hgt - 1 ≤ b.hgt by omega)
      omega
/-! ### what stands for a thing -/
inductive RepTh (K : PySem.W.Frag) (H : Hp) : V → Th → Prop where
  | one : RepTh K H .non .one
  | pair {a : Addr} {v1 v2 : V} {t1 t2 : Th} : SqT K H a [v1, v2] → RepTh K H v1 t1 → RepTh K H v2 t2 → RepTh K H (.ref a) (.pair t1 t2)
  | other {v : V} {n : String} : TyX K H v (.type n) → n ∈ kinds → v ≠ .non → (n = "tuple" → ∃ a xs, v = .ref a ∧ SqT K H a xs ∧ xs.length ≠ 2) → RepTh K H v .other
theorem RepTh.keep {K : PySem.W.Frag} {H H' : Hp} {v : V} {t : Th} (e : Keep H H') (r : RepTh K H v t) : RepTh K H' v t := by
  induction r with
  | one => exact .one
  | pair h _ _ i1 i2 => exact .pair (e.seqT h) i1 i2
  | other h1 h2 h3 h4 =>
    refine .other (e.ty h1) h2 h3 fun z => ?_
    obtain ⟨a, xs, e1, e2, e3⟩ := h4 z
    exact ⟨a, xs, e1, e.seqT e2, e3⟩
/-- a shape to the height 40 and the width 20000 -/
def Th.good (t : Th) : Prop := t.sh = true ∧ t.hgt ≤ 40 ∧ t.wid ≤ 20000
instance (t : Th) : Decidable t.good := by unfold Th.good; infer_instance

/-! ### stems: row-trees of which the shape alone counts -/
def stF (l r : V) (w h : Int) : List (Str × V) := [("left", l), ("right", r), ("width", .int w), ("height", .int h)]
theorem lk_put (f g : Str) (y : V) (fs : List (Str × V)) : ((f, y) :: fs).lookup g = if g = f then some y else fs.lookup g := lookup_put f g y fs
theorem stF_left {l r : V} {w h : Int} : (stF l r w h).lookup ("left" : Str) = some l := by
  unfold stF
  rw [lk_put, if_pos rfl]
theorem stF_right {l r : V} {w h : Int} : (stF l r w h).lookup ("right" : Str) = some r := by
  unfold stF
  rw [lk_put, if_neg (by decide +kernel), lk_put, if_pos rfl]
theorem stF_width {l r : V} {w h : Int} : (stF l r w h).lookup ("width" : Str) = some (V.int w) := by
  unfold stF
  rw [lk_put, if_neg (by decide +kernel), lk_put, if_neg (by decide +kernel), lk_put, if_pos rfl]
theorem stF_height {l r : V} {w h : Int} : (stF l r w h).lookup ("height" : Str) = some (V.int h) := by
  unfold stF
  rw [lk_put, if_neg (by decide +kernel), lk_put, if_neg (by decide +kernel), lk_put, if_neg (by decide +kernel), lk_put, if_pos rfl]
theorem pf_cons {f g : Str} {v x : V} {fs : List (Str × V)} (h : ¬ g = f) : putF f v ((g, x) :: fs) = (g, x) :: putF f v fs := if_neg h
theorem pf1 (l : V) : putF "left" l [] = [(("left" : Str), l)] := rfl
theorem pf2 (l r : V) : putF "right" r [(("left" : Str), l)] = [(("left" : Str), l), (("right" : Str), r)] := by rw [pf_cons (by decide +kernel)]; rfl
theorem pf3 (l r w : V) : putF "width" w [(("left" : Str), l), (("right" : Str), r)] = [(("left" : Str), l), (("right" : Str), r), (("width" : Str), w)] := by rw [pf_cons (by decide +kernel), pf_cons (by decide +kernel)]; rfl
theorem pf4 (l r w h : V) : putF "height" h [(("left" : Str), l), (("right" : Str), r), (("width" : Str), w)] = [(("left" : Str), l), (("right" : Str), r), (("width" : Str), w), (("height" : Str), h)] := by rw [pf_cons (by decide +kernel), pf_cons (by decide +kernel), pf_cons (by decide +kernel)]; rfl
/-- at a: a tree of the shape t -/
inductive StAt (C : Addr) (H : Hp) : V → Th → Prop where
  | one {a dx : Addr} : H a = some (.ins C dx (stF .non .non 1 0)) → StAt C H (.ref a) .one
  | pair {a dx : Addr} {v1 v2 : V} {t1 t2 : Th} : H a = some (.ins C dx (stF v1 v2 ((t1.wid + t2.wid : Nat) : Int) ((1 + max t1.hgt t2.hgt : Nat) : Int))) → StAt C H v1 t1 → StAt C H v2 t2 → StAt C H (.ref a) (.pair t1 t2)
theorem StAt.at_ {C : Addr} {H : Hp} {v : V} {t : Th} (h : StAt C H v t) : ∃ a dx l r, v = .ref a ∧ H a = some (.ins C dx (stF l r (t.wid : Int) (t.hgt : Int))) := by
  cases h with
  | one h => exact ⟨_, _, _, _, rfl, h⟩
  | pair h _ _ => exact ⟨_, _, _, _, rfl, h⟩
theorem StAt.mono {C : Addr} {H H' : Hp} {v : V} {t : Th} (s : ∀ a dx l r w h, H a = some (.ins C dx (stF l r w h)) → H' a = some (.ins C dx (stF l r w h))) (h : StAt C H v t) : StAt C H' v t := by
  induction h with
  | one h => exact .one (s _ _ _ _ _ _ h)
  | pair h _ _ i1 i2 => exact .pair (s _ _ _ _ _ _ h) i1 i2
theorem StAt.same {C : Addr} {H H' : Hp} {v : V} {t : Th} (h : StAt C H v t) (s : Same H H') : StAt C H' v t := h.mono fun a _ _ _ _ _ e => s a _ e
theorem StAt.keep {C : Addr} {H H' : Hp} {v : V} {t : Th} (h : StAt C H v t) (s : Keep H H') : StAt C H' v t := h.mono fun a _ _ _ _ _ e => by
  rcases s a _ e with e1 | ⟨_, _, e1, _⟩
  · exact e1
  · cases e1
/-- behind a store at an instance that is not finished -/
theorem StAt.off {C D : Addr} {H : Hp} {p dx : Addr} {fs : List (Str × V)} {o : HO} {v : V} {t : Th} (h : StAt C H v t) (hp : H p = some (.ins D dx fs)) (hl : fs.length < 4) : StAt C (upd H p o) v t := h.mono fun a dy l r w h e => by
  have n : a ≠ p := fun z => by
    rw [z, hp] at e
    injection e with e
    injection e with e1 e2 e3
    rw [e3] at hl
    exact absurd hl (by show ¬ (4 < 4); decide)
  rw [upd_ne n]
  exact e
theorem StAt.ne {C D : Addr} {H : Hp} {p dx a dy : Addr} {fs : List (Str × V)} {l r : V} {w h : Int} (hp : H p = some (.ins D dx fs)) (hl : fs.length < 4) (e : H a = some (.ins C dy (stF l r w h))) : a ≠ p := fun z => by
  rw [z, hp] at e
  injection e with e
  injection e with e1 e2 e3
  rw [e3] at hl
  exact absurd hl (by show ¬ (4 < 4); decide)
theorem StAt.sh {C : Addr} {H : Hp} {v : V} {t : Th} (h : StAt C H v t) : t.sh = true := by
  induction h with
  | one _ => rfl
  | pair _ _ _ i1 i2 =>
    show (_ && _) = true
    rw [i1, i2]
    rfl
theorem upd_upd {H : Hp} {p : Addr} {o u : HO} : upd (upd H p o) p u = upd H p u := by
  funext b
  by_cases h : b = p
  · rw [h, upd_same, upd_same]
  · rw [upd_ne h, upd_ne h, upd_ne h]

/-! ### even halves -/
def blen (n : Nat) : Nat := if n = 0 then 0 else n.log2 + 1
theorem blen_half {m : Nat} (h : 0 < m) : blen m = 1 + blen (m / 2) := by
  unfold blen
  rw [if_neg (by omega), Nat.log2_def]
  by_cases c : m < 2
  · rw [if_neg (by omega), if_pos (by omega)]
  · rw [if_pos (by omega), if_neg (by omega)]
    omega
theorem blen_mono {a b : Nat} (h : a ≤ b) : blen a ≤ blen b := by
  unfold blen
  split
  · omega
  · rw [if_neg (by omega)]
    have := log2_le_of h
    omega
theorem blen_int (n : Nat) : Builtin.Int.intBits (n : Int) = blen n := by
  unfold Builtin.Int.intBits blen
  by_cases c : n = 0
  · subst c
    rfl
  · rw [if_neg c, if_neg (by simp; omega)]
    rfl
def evT (n : Nat) : Th := if h : n < 2 then .one else .pair (evT ((n + 1) / 2)) (evT (n / 2))
termination_by n
decreasing_by all_goals omega
theorem evT_one {n : Nat} (h : n < 2) : evT n = .one := by
  conv => lhs; rw [evT]
  rw [dif_pos h]
theorem evT_two {n : Nat} (h : 2 ≤ n) : evT n = .pair (evT ((n + 1) / 2)) (evT (n / 2)) := by
  conv => lhs; rw [evT]
  rw [dif_neg (by omega)]
theorem evT_wid {n : Nat} : 1 ≤ n → (evT n).wid = n := by
  induction n using Nat.strongRecOn with
  | ind n ih =>
    intro h
    by_cases c : n < 2
    · rw [evT_one c]
      show 1 = n
      omega
    · rw [evT_two (by omega)]
      show (evT ((n + 1) / 2)).wid + (evT (n / 2)).wid = n
      rw [ih _ (by omega) (by omega), ih _ (by omega) (by omega)]
      omega
theorem evT_hgt {n : Nat} : 1 ≤ n → (evT n).hgt = blen (n - 1) := by
  induction n using Nat.strongRecOn with
  | ind n ih =>
    intro h
    by_cases c : n < 2
    · rw [evT_one c, show n = 1 by omega]
      rfl
    · rw [evT_two (by omega)]
      show 1 + max (evT ((n + 1) / 2)).hgt (evT (n / 2)).hgt = blen (n - 1)
      rw [ih _ (by omega) (by omega), ih _ (by omega) (by omega), blen_half (show 0 < n - 1 by omega)]
      have h1 := blen_mono (show n / 2 - 1 ≤ (n + 1) / 2 - 1 by omega)
      rw [Nat.max_eq_left h1, show (n + 1) / 2 - 1 = (n - 1) / 2 by omega]
theorem evT_bal {n : Nat} : 1 ≤ n → (evT n).isBal = true := by
  induction n using Nat.strongRecOn with
  | ind n ih =>
    intro h
    by_cases c : n < 2
    · rw [evT_one c]
      rfl
    · rw [evT_two (by omega)]
      show ((evT ((n + 1) / 2)).isBal && (evT (n / 2)).isBal && decide ((evT ((n + 1) / 2)).hgt ≤ (evT (n / 2)).hgt + 1) && decide ((evT (n / 2)).hgt ≤ (evT ((n + 1) / 2)).hgt + 1)) = true
      rw [ih _ (by omega) (by omega), ih _ (by omega) (by omega), evT_hgt (show 1 ≤ (n + 1) / 2 by omega), evT_hgt (show 1 ≤ n / 2 by omega)]
      have h1 := blen_mono (show n / 2 - 1 ≤ (n + 1) / 2 - 1 by omega)
      have h2 : blen ((n + 1) / 2 - 1) ≤ blen (n / 2 - 1) + 1 := by
        have h3 := blen_half (show 0 < 2 * (n / 2 - 1) + 1 by omega)
        rw [show (2 * (n / 2 - 1) + 1) / 2 = n / 2 - 1 by omega] at h3
        have h4 := blen_mono (show (n + 1) / 2 - 1 ≤ 2 * (n / 2 - 1) + 1 by omega)
        omega
      rw [decide_eq_true h2, decide_eq_true (show blen (n / 2 - 1) ≤ blen ((n + 1) / 2 - 1) + 1 by omega)]
      rfl
theorem evT_sh {n : Nat} (h : 1 ≤ n) : (evT n).sh = true := Th.bal_sh _ (evT_bal h)
theorem evT_hgt_le {n : Nat} (h : 1 ≤ n) (h2 : n ≤ 20000) : (evT n).hgt ≤ 15 := by
  rw [evT_hgt h]
  exact Nat.le_trans (blen_mono (show n - 1 ≤ 20000 by omega)) (by decide)
/-! ### shapes as data -/
def shD : Th → PyData
  | .one => .none
  | .pair a b => .tuple [shD a, shD b]
  | .other => .none
theorem RepTh.dp {K : PySem.W.Frag} {H : Hp} {v : V} {t : Th} (r : RepTh K H v t) : t.sh = true → Dp K H v (shD t) := by
  induction r with
  | one => exact fun _ => .non
  | other => exact fun h => by cases h
  | @pair a v1 v2 t1 t2 h _ _ i1 i2 =>
    intro sh
    have sh : (t1.sh && t2.sh) = true := sh
    rw [Bool.and_eq_true] at sh
    exact .tup h (.cons (i1 sh.1) (.cons (i2 sh.2) .nil))
theorem shD_lay : ∀ t : Th, (shD t).canLay0 = true
  | .one => rfl
  | .other => rfl
  | .pair a b => by
    show (PyData.tuple [shD a, shD b]).canLay0 = true
    simp [PyData.canLay0, PyData.canLayAll0, shD_lay a, shD_lay b]
theorem shD_depth : ∀ t : Th, (shD t).depth ≤ t.hgt
  | .one => by
    show PyData.depth .none ≤ 0
    simp [PyData.depth]
  | .other => by
    show PyData.depth .none ≤ 0
    simp [PyData.depth]
  | .pair a b => by
    have := shD_depth a
    have := shD_depth b
    show (PyData.tuple [shD a, shD b]).depth ≤ 1 + max a.hgt b.hgt
    simp only [PyData.depth, PyData.depthAll]
    omega
theorem shD_shaped {t : Th} (h : t.hgt ≤ 64) : SeqAt.shaped (shD t) = true := by
  have := shD_depth t
  unfold SeqAt.shaped
  rw [shD_lay, decide_eq_true (by omega)]
  rfl
theorem shD_eqv (t : Th) : PyData.eqv (shD t) (shD t) = true := SeqAt.eqv_refl _ (shD_lay t)
/-- a shape stands, whatever becomes of a dict -/
theorem RepTh.off {K : PySem.W.Frag} {H H' : Hp} {p : Addr} {kvs : List (Key × V)} {v : V} {t : Th} (b : But p H H') (hp : H p = some (.dK kvs)) (r : RepTh K H v t) : t.sh = true → RepTh K H' v t := by
  induction r with
  | one => exact fun _ => .one
  | other => exact fun h => by cases h
  | @pair a v1 v2 t1 t2 h _ _ i1 i2 =>
    intro sh
    have sh : (t1.sh && t2.sh) = true := sh
    rw [Bool.and_eq_true] at sh
    refine .pair ?_ (i1 sh.1) (i2 sh.2)
    rcases h with (h | ⟨o, h⟩) | h
    · exact .inl (.inl (b _ _ (ne_of h hp (fun z => by cases z)) h))
    · exact .inl (.inr ⟨o, b _ _ (ne_of h hp (fun z => by cases z)) h⟩)
    · exact .inr h
/-- what is known of even shapes -/
structure EvAt (K : PySem.W.Frag) (H : Hp) (kvs : List (Key × V)) : Prop where
  one : valV kvs (.inl 1) = some .non
  all_ : ∀ k v, valV kvs k = some v → ∃ n : Nat, k = .inl n ∧ 1 ≤ n ∧ RepTh K H v (evT n)
theorem EvAt.same {K : PySem.W.Frag} {H H' : Hp} {kvs : List (Key × V)} (e : EvAt K H kvs) (s : Same H H') : EvAt K H' kvs := ⟨e.one, fun k v h => by
  obtain ⟨n, h1, h2, h3⟩ := e.all_ k v h
  exact ⟨n, h1, h2, h3.keep (Keep.of s)⟩⟩

/-! ### what a thing raises where a balanced shape is wanted -/
def trS (t : Th) : Str := if t.sh = true then (if t.isBal = true then "" else "BadBalance") else "BadShape"
theorem trS_cases (t : Th) : (t.sh = false ∧ trS t = "BadShape") ∨ (t.sh = true ∧ t.isBal = false ∧ trS t = "BadBalance") ∨ (t.sh = true ∧ t.isBal = true ∧ trS t = "") := by
  unfold trS
  cases t.sh <;> cases t.isBal <;> first | exact .inl ⟨rfl, rfl⟩ | exact .inr (.inl ⟨rfl, rfl, rfl⟩) | exact .inr (.inr ⟨rfl, rfl, rfl⟩)
theorem trS_ok {t : Th} (h : trS t = "") : t.sh = true ∧ t.isBal = true := by
  rcases trS_cases t with ⟨e1, e⟩ | ⟨e1, e2, e⟩ | ⟨e1, e2, e⟩
  · rw [e] at h; exact absurd h (by decide +kernel)
  · rw [e] at h; exact absurd h (by decide +kernel)
  · exact ⟨e1, e2⟩
theorem Th.wid_pow : ∀ t : Th, t.wid ≤ 2 ^ t.hgt
  | .one => by decide
  | .other => by decide
  | .pair a b => by
    have h1 := a.wid_pow
    have h2 := b.wid_pow
    have m1 := Nat.pow_le_pow_right (show 0 < 2 by decide) (Nat.le_max_left a.hgt b.hgt)
    have m2 := Nat.pow_le_pow_right (show 0 < 2 by decide) (Nat.le_max_right a.hgt b.hgt)
    show a.wid + b.wid ≤ 2 ^ (1 + max a.hgt b.hgt)
    rw [Nat.add_comm 1, Nat.pow_succ]
    omega
/-- a shape or a near one -/
def TwoAt (K : PySem.W.Frag) (H : Hp) (u : V) (t : Th) : Prop := RepTh K H u t ∧ t.hgt ≤ 20 ∧ (t.sh = true → t.wid ≤ 20000)
theorem twoAt {K : PySem.W.Frag} {H : Hp} {v : V} {t : Th} (r : RepTh K H v t) (h : t.hgt ≤ 14) : TwoAt K H v t := ⟨r, by omega, fun _ => by
  have h1 := t.wid_pow
  have h2 := Nat.pow_le_pow_right (show 0 < 2 by decide) h
  have h3 : (2 : Nat) ^ 14 = 16384 := by decide
  omega⟩
theorem TwoAt.good {K : PySem.W.Frag} {H : Hp} {v : V} {t : Th} (T : TwoAt K H v t) (h : t.sh = true) : t.good := ⟨h, by have := T.2.1; omega, T.2.2 h⟩
theorem TwoAt.keep {K : PySem.W.Frag} {H H' : Hp} {v : V} {t : Th} (k : Keep H H') (T : TwoAt K H v t) : TwoAt K H' v t := ⟨T.1.keep k, T.2⟩
/-! ### data of a word and shapes -/
def paD : Option Th → PyData
  | none => .tuple []
  | some t => shD t
def hgtP : Option Th → Nat
  | none => 0
  | some t => t.hgt
theorem paD_lay (p : Option Th) : (paD p).canLay0 = true := by
  cases p with
  | none => rfl
  | some t => exact shD_lay t
theorem paD_depth (p : Option Th) : (paD p).depth ≤ hgtP p + 1 := by
  cases p with
  | none =>
    show (PyData.tuple []).depth ≤ 1
    simp [PyData.depth, PyData.depthAll]
  | some t =>
    have := shD_depth t
    show (shD t).depth ≤ t.hgt + 1
    omega
theorem shaped_of {d : PyData} (h1 : d.canLay0 = true) (h2 : d.depth ≤ 64) : SeqAt.shaped d = true := by
  unfold SeqAt.shaped
  rw [h1, decide_eq_true h2]
  rfl

/-! ### thing == () -/
/-- no tuple, of a known kind -/
inductive NonT (K : PySem.W.Frag) (H : Hp) : V → Prop where
  | non : NonT K H .non
  | bl (b : Bool) : NonT K H (.bl b)
  | int (i : Int) : NonT K H (.int i)
  | str (x : Str) (h : PyData.strOk x = true) : NonT K H (.str x)
  | lst {a : Addr} {xs : List V} (h : SqL K H a xs) : NonT K H (.ref a)
  | dic {a : Addr} {kvs : List (Key × V)} (h : H a = some (.dK kvs)) : NonT K H (.ref a)
theorem NonT.keep {K : PySem.W.Frag} {H H' : Hp} {v : V} (k : Keep H H') (h : NonT K H v) : NonT K H' v := by
  cases h with
  | non => exact .non
  | bl b => exact .bl b
  | int i => exact .int i
  | str x h => exact .str x h
  | lst h =>
    rcases h with (h | ⟨o, h⟩) | h
    · rcases k _ _ h with e | ⟨_, ys, _, e⟩
      · exact .lst (.inl (.inl e))
      · exact .lst (.inl (.inl e))
    · rcases k _ _ h with e | ⟨_, _, z, _⟩
      · exact .lst (.inl (.inr ⟨o, e⟩))
      · cases z
    · exact .lst (.inr h)
  | dic h =>
    rcases k _ _ h with e | ⟨_, _, z, _⟩
    · exact .dic e
    · cases z
/-- a thing that is asked for () -/
inductive EmpQ (K : PySem.W.Frag) (H : Hp) : V → Bool → Prop where
  | tup {a : Addr} {xs : List V} (h : SqT K H a xs) : EmpQ K H (.ref a) xs.isEmpty
  | oth {v : V} (h : NonT K H v) : EmpQ K H v false
theorem EmpQ.keep {K : PySem.W.Frag} {H H' : Hp} {v : V} {b : Bool} (k : Keep H H') (h : EmpQ K H v b) : EmpQ K H' v b := by
  cases h with
  | tup h => exact .tup (k.seqT h)
  | oth h => exact .oth (h.keep k)
def rEqE (K : PySem.W.Frag) : R2 := fun x y H Q => ∃ b r, y = .ref b ∧ SqT K H b [] ∧ EmpQ K H x r ∧ Q (.bl r) H
def rNeE (K : PySem.W.Frag) : R2 := fun x y H Q => ∃ b r, y = .ref b ∧ SqT K H b [] ∧ EmpQ K H x r ∧ Q (.bl (!r)) H
theorem dict_eq_declines (M : Model) (A : Around) (l b : Addr) {s : Shared} {Q : Value → Shared → Prop} {E : Value → Shared → Prop} {prog : Program} {w : World} (hM : M = model prog w) (hl : s.TypeIs (.ref l) "dict") (hb : s.TypeIs (.ref b) "tuple") (h : Q .notImplemented s) :
    wpAny M A (call (.builtin "dict.__eq__") [.ref l, .ref b]) Q E s := by
  subst hM
  refine wpAny_call_entry PySem.F.slot_dict_eq hl PySem.F.entry_dict_eq ?_ (PySem.F.args_dict_eq_2 _ _)
  show wpAny _ _ (Builtin.Dict.dictSlotArgs "__eq__" ⟨[.ref l, .ref b], []⟩ >>= _) _ _ s
  refine wpAny_bind ?_
  unfold Builtin.Dict.dictSlotArgs
  refine wpAny_bind (wpAny_notOrdered_dict hl ?_)
  show wpAny _ _ (pure (Value.ref l, Value.ref b)) _ _ s
  refine wpAny_pure ?_
  refine wpAny_bind (wpAny_isInstance (T := "tuple") hb PySem.F.sub_tuple_dict ?_)
  simp only [Bool.not_false, if_true]
  refine wpAny_bind (wpAny_rule ?_)
  exact wpAny_bind (wpAny_pure (wpAny_pure ⟨_, rfl, h⟩))
theorem dict_ne_declines (M : Model) (A : Around) (l b : Addr) {s : Shared} {Q : Value → Shared → Prop} {E : Value → Shared → Prop} {prog : Program} {w : World} (hM : M = model prog w) (hl : s.TypeIs (.ref l) "dict") (hb : s.TypeIs (.ref b) "tuple") (h : Q .notImplemented s) :
    wpAny M A (call (.builtin "dict.__ne__") [.ref l, .ref b]) Q E s := by
  subst hM
  refine wpAny_call_entry PySem.F.slot_dict_ne hl PySem.F.entry_dict_ne ?_ (PySem.F.args_dict_ne_2 _ _)
  show wpAny _ _ (Builtin.Dict.dictSlotArgs "__ne__" ⟨[.ref l, .ref b], []⟩ >>= _) _ _ s
  refine wpAny_bind ?_
  unfold Builtin.Dict.dictSlotArgs
  refine wpAny_bind (wpAny_notOrdered_dict hl ?_)
  show wpAny _ _ (pure (Value.ref l, Value.ref b)) _ _ s
  refine wpAny_pure ?_
  refine wpAny_bind (wpAny_isInstance (T := "tuple") hb PySem.F.sub_tuple_dict ?_)
  simp only [Bool.not_false, if_true]
  refine wpAny_bind (wpAny_rule ?_)
  exact wpAny_bind (wpAny_pure (wpAny_pure ⟨_, rfl, h⟩))
theorem tuple_eq_declines_dict (l b : Addr) (items : Array Value) (n : Nat) (dd dd2 : Option Addr) (sl sl2 : Array (Option Value)) (D : Data) :
    Meets (Builtin.«tuple.__eq__» ⟨[.ref l, .ref b], []⟩) (fun _ R s => s.heap.get? l = some { cls := .type "tuple", dict := dd, data := .seq items n, slots := sl } ∧ s.heap.get? b = some { cls := .type "dict", dict := dd2, data := D, slots := sl2 } ∧ R (.ok (.ret .notImplemented)) s) :=
  .of_wp fun prog w A R s h => by obtain ⟨hp, g, d, tk, os⟩ := s; obtain ⟨hl, hb, h⟩ := h; have f1 := F.sub_dict_tuple; wp_walk using wpAny_loadPart' hl, wpAny_loadPart' hb; exact ⟨_, rfl, h⟩
theorem tuple_ne_declines_dict (l b : Addr) (items : Array Value) (n : Nat) (dd dd2 : Option Addr) (sl sl2 : Array (Option Value)) (D : Data) :
    Meets (Builtin.«tuple.__ne__» ⟨[.ref l, .ref b], []⟩) (fun _ R s => s.heap.get? l = some { cls := .type "tuple", dict := dd, data := .seq items n, slots := sl } ∧ s.heap.get? b = some { cls := .type "dict", dict := dd2, data := D, slots := sl2 } ∧ R (.ok (.ret .notImplemented)) s) :=
  .of_wp fun prog w A R s h => by obtain ⟨hp, g, d, tk, os⟩ := s; obtain ⟨hl, hb, h⟩ := h; have f1 := F.sub_dict_tuple; wp_walk using wpAny_loadPart' hl, wpAny_loadPart' hb; exact ⟨_, rfl, h⟩
theorem ne_of_dict_tuple {s : Shared} {l b : Addr} {items : Array Value} (hl : s.TypeIs (.ref l) "dict") (hb : s.heap.IsTuple b items) : l ≠ b := fun e => by
  subst e
  obtain ⟨o, ho, hc⟩ := hl
  obtain ⟨o2, ho2, hc2, _⟩ := hb
  rw [ho] at ho2
  cases ho2
  rw [hc] at hc2
  exact absurd hc2 (by simp)
section
open PySem.SeqAt
theorem rc_dict_tuple {A : Around} {s : Shared} {l b : Addr} {items : Array Value} (hl : s.TypeIs (.ref l) "dict") (hb : s.heap.IsTuple b items) (hu : A.units < cLine) : RcAt A s (.ref l) (.ref b) false := fun prog w E Q h => by
  have hne := ne_of_dict_tuple hl hb
  obtain ⟨⟨cls, dd, data, sl⟩, ho, hc⟩ := id hl
  obtain ⟨⟨cls2, dd2, data2, sl2⟩, ho2, hc2, n2, hd2⟩ := id hb
  simp only at hc hc2 hd2
  subst hc hc2 hd2
  exact (rc_eq_decline_or (k := false) ⟨_, ho, rfl⟩ ⟨_, ho2, rfl⟩ (by decide) F.sub_tuple_dict F.slot_dict_eq F.slot_tuple_eq_refl
    (fun _ hq => dict_eq_declines _ _ l b rfl hl ⟨_, ho2, rfl⟩ hq)
    (fun _ hq => call_meets F.slot_tuple_eq_refl ⟨_, ho2, rfl⟩ F.entry_tuple_eq (F.args_tuple_eq_2 _ _) (tuple_eq_declines_dict b l items n2 dd2 dd sl2 sl data) ⟨ho2, ho, hq⟩)
    (fun _ hq => wpAny_isSame_ref_other hne ho ho2 (by simp) hq) (.inr hu) h)
theorem rc_dict_tuple_ne {A : Around} {s : Shared} {l b : Addr} {items : Array Value} (hl : s.TypeIs (.ref l) "dict") (hb : s.heap.IsTuple b items) (hu : A.units < cLine) : RcNeAt A s (.ref l) (.ref b) true := fun prog w E Q h => by
  have hne := ne_of_dict_tuple hl hb
  obtain ⟨⟨cls, dd, data, sl⟩, ho, hc⟩ := id hl
  obtain ⟨⟨cls2, dd2, data2, sl2⟩, ho2, hc2, n2, hd2⟩ := id hb
  simp only at hc hc2 hd2
  subst hc hc2 hd2
  exact (rc_ne_decline_or (k := false) ⟨_, ho, rfl⟩ ⟨_, ho2, rfl⟩ (by decide) F.sub_tuple_dict F.slot_dict_ne F.slot_tuple_ne_refl
    (fun _ hq => dict_ne_declines _ _ l b rfl hl ⟨_, ho2, rfl⟩ hq)
    (fun _ hq => call_meets F.slot_tuple_ne_refl ⟨_, ho2, rfl⟩ F.entry_tuple_ne (F.args_tuple_ne_2 _ _) (tuple_ne_declines_dict b l items n2 dd2 dd sl2 sl data) ⟨ho2, ho, hq⟩)
    (fun _ hq => wpAny_isSame_ref_other hne ho ho2 (by simp) hq) (.inr hu) h)
end
theorem nonT_dp {K : PySem.W.Frag} {H : Hp} {v : V} (h : NonT K H v) : (∃ d, Dp K H v d ∧ SeqAt.shaped d = true ∧ PyData.eqv d (.tuple []) = false) ∨ (∃ a xs, v = .ref a ∧ SqL K H a xs) ∨ ∃ a kvs, v = .ref a ∧ H a = some (.dK kvs) := by
  cases h with
  | non => exact .inl ⟨_, .non, rfl, by simp [PyData.eqv]⟩
  | bl b => exact .inl ⟨_, .bl b, rfl, by simp [PyData.eqv]⟩
  | int i => exact .inl ⟨_, .int i, rfl, by simp [PyData.eqv]⟩
  | str x h => exact .inl ⟨_, .str x, by simp [SeqAt.shaped, PyData.canLay0, PyData.depth, h], by simp [PyData.eqv]⟩
  | lst h => exact .inr (.inl ⟨_, _, rfl, h⟩)
  | dic h => exact .inr (.inr ⟨_, _, rfl, h⟩)
section
open PySem.SeqAt
variable {X : Cx}
theorem op_eqE (hu : X.A.units + 64 < cLine) : OpR X (compareOp .Eq) (rEqE X.K) := by
  intro pins s σ H x y v u Q I rx ry h
  obtain ⟨b, r, rfl, hb, hx, q⟩ := h
  have hu' : X.A.units < cLine := by omega
  have ry0 := ry
  cases (show u = Value.ref b from ry)
  obtain ⟨ib, rvb, hbT, hzb⟩ := I.tuple hb
  cases rvb
  cases hx with
  | tup ha =>
    rename_i a xs
    cases (show v = Value.ref a from rx)
    obtain ⟨ia, rva, haT, hza⟩ := I.tuple ha
    have hl := rva.length
    have e : ((List.range (min ia.toArray.size ([] : List Value).toArray.size)).all (fun _ => true) && ia.toArray.size == ([] : List Value).toArray.size) = xs.isEmpty := by
      cases xs with
      | nil => cases rva; rfl
      | cons x xs => cases rva; simp
    exact RcAt.tuples (e := fun _ => true) haT hbT hu' (fun j h1 h2 => absurd h2 (Nat.not_lt_zero _)) _ _ _ _ (by rw [e]; exact ⟨.bl _, H, I, rfl, q⟩)
  | oth hn =>
    rcases nonT_dp hn with ⟨d, hd, sd, ed⟩ | ⟨a, xs, rfl, ha⟩ | ⟨a, kvs, rfl, ha⟩
    · exact op_eqD hu pins s σ H x (.ref b) v (.ref b) Q I rx ry0 ⟨d, .tuple [], hd, .tup hb .nil, sd, rfl, by rw [ed]; exact q⟩
    · cases (show v = Value.ref a from rx)
      obtain ⟨ia, rva, haL, hza⟩ := I.list ha
      exact RcAt.list_tuple haL.isList hbT hu' _ _ _ _ ⟨.bl _, H, I, rfl, q⟩
    · cases (show v = Value.ref a from rx)
      obtain ⟨z, hd, vs0, r0, dd⟩ := dk_of I.hok ha
      exact rc_dict_tuple dd.typeIs hbT hu' _ _ _ _ ⟨.bl _, H, I, rfl, q⟩
theorem op_neE (hu : X.A.units + 64 < cLine) : OpR X (compareOp .NotEq) (rNeE X.K) := by
  intro pins s σ H x y v u Q I rx ry h
  obtain ⟨b, r, rfl, hb, hx, q⟩ := h
  have hu' : X.A.units < cLine := by omega
  have ry0 := ry
  cases (show u = Value.ref b from ry)
  obtain ⟨ib, rvb, hbT, hzb⟩ := I.tuple hb
  cases rvb
  cases hx with
  | tup ha =>
    rename_i a xs
    cases (show v = Value.ref a from rx)
    obtain ⟨ia, rva, haT, hza⟩ := I.tuple ha
    have hl := rva.length
    have e : ((List.range (min ia.toArray.size ([] : List Value).toArray.size)).all (fun _ => true) && ia.toArray.size == ([] : List Value).toArray.size) = xs.isEmpty := by
      cases xs with
      | nil => cases rva; rfl
      | cons x xs => cases rva; simp
    exact RcNeAt.tuples (e := fun _ => true) haT hbT hu' (fun j h1 h2 => absurd h2 (Nat.not_lt_zero _)) _ _ _ _ (by rw [e]; exact ⟨.bl _, H, I, rfl, q⟩)
  | oth hn =>
    rcases nonT_dp hn with ⟨d, hd, sd, ed⟩ | ⟨a, xs, rfl, ha⟩ | ⟨a, kvs, rfl, ha⟩
    · exact op_neD hu pins s σ H x (.ref b) v (.ref b) Q I rx ry0 ⟨d, .tuple [], hd, .tup hb .nil, sd, rfl, by rw [ed]; exact q⟩
    · cases (show v = Value.ref a from rx)
      obtain ⟨ia, rva, haL, hza⟩ := I.list ha
      exact RcNeAt.list_tuple haL.isList hbT hu' _ _ _ _ ⟨.bl _, H, I, rfl, q⟩
    · cases (show v = Value.ref a from rx)
      obtain ⟨z, hd, vs0, r0, dd⟩ := dk_of I.hok ha
      exact rc_dict_tuple_ne dd.typeIs hbT hu' _ _ _ _ ⟨.bl _, H, I, rfl, q⟩
end

/-! ### balanced trees put together -/
theorem bal_pair {a b : Th} : (Th.pair a b).isBal = true ↔ a.isBal = true ∧ b.isBal = true ∧ a.hgt ≤ b.hgt + 1 ∧ b.hgt ≤ a.hgt + 1 := by
  show (a.isBal && b.isBal && decide (a.hgt ≤ b.hgt + 1) && decide (b.hgt ≤ a.hgt + 1)) = true ↔ _
  simp only [Bool.and_eq_true, decide_eq_true_eq]
  exact ⟨fun h => ⟨h.1.1.1, h.1.1.2, h.1.2, h.2⟩, fun h => ⟨⟨⟨h.1, h.2.1⟩, h.2.2.1⟩, h.2.2.2⟩⟩
theorem hgt_pair {a b : Th} : (Th.pair a b).hgt = 1 + max a.hgt b.hgt := rfl
theorem wid_pair {a b : Th} : (Th.pair a b).wid = a.wid + b.wid := rfl
theorem bal_tall {t : Th} (h : t.isBal = true) (p : 0 < t.hgt) : ∃ a b, t = .pair a b := by
  cases t with
  | one => exact absurd p (Nat.lt_irrefl 0)
  | other => cases h
  | pair a b => exact ⟨a, b, rfl⟩
theorem bal_low {t : Th} (h : t.isBal = true) (p : t.hgt = 0) : t = .one := by
  cases t with
  | one => rfl
  | other => cases h
  | pair a b =>
    rw [hgt_pair] at p
    omega
theorem bal_hgt {t : Th} (h : t.isBal = true) (w : t.wid ≤ 20000) : t.hgt ≤ 20 := by
  refine Nat.le_of_not_lt fun l => ?_
  have h1 := t.least_wid h
  have h2 := leastW_mono (show 21 ≤ t.hgt from l)
  have h3 : leastW 21 = 28657 := by decide +kernel
  omega
theorem bal_hgtM {t : Th} (h : t.isBal = true) (w : t.wid ≤ 40000) : t.hgt ≤ 21 := by
  refine Nat.le_of_not_lt fun l => ?_
  have h1 := t.least_wid h
  have h2 := leastW_mono (show 22 ≤ t.hgt from l)
  have h3 : leastW 22 = 46368 := by decide +kernel
  omega
def evR (l : Th) : Th → Th
  | .pair inner outer => if inner.hgt ≤ outer.hgt then .pair (.pair l inner) outer else
    match inner with
    | .pair one other => .pair (.pair l one) (.pair other outer)
    | _ => .one
  | _ => .one
def evL (r : Th) : Th → Th
  | .pair outer inner => if inner.hgt ≤ outer.hgt then .pair outer (.pair inner r) else
    match inner with
    | .pair one other => .pair (.pair outer one) (.pair other r)
    | _ => .one
  | _ => .one
def evenP (l r : Th) : Th := if r.hgt > l.hgt + 1 then evR l r else if l.hgt > r.hgt + 1 then evL r l else .pair l r
structure EvOk (l r t : Th) : Prop where
  bal : t.isBal = true
  wid : t.wid = l.wid + r.wid
  near : l.hgt ≤ r.hgt + 1 → r.hgt ≤ l.hgt + 1 → t.hgt = 1 + max l.hgt r.hgt
  lo : max l.hgt r.hgt ≤ t.hgt
  hi : t.hgt ≤ 1 + max l.hgt r.hgt
theorem evenP_ok {l r : Th} (bl : l.isBal = true) (br : r.isBal = true) (d1 : l.hgt ≤ r.hgt + 2) (d2 : r.hgt ≤ l.hgt + 2) : EvOk l r (evenP l r) := by
  unfold evenP
  split
  · rename_i c
    obtain ⟨x, y, rfl⟩ := bal_tall br (by omega)
    obtain ⟨b1, b2, h1, h2⟩ := bal_pair.mp br
    rw [hgt_pair] at c d1 d2
    show EvOk l (.pair x y) (if x.hgt ≤ y.hgt then _ else _)
    split
    · refine ⟨bal_pair.mpr ⟨bal_pair.mpr ⟨bl, b1, by omega, by omega⟩, b2, ?_, ?_⟩, ?_, ?_, ?_, ?_⟩
      all_goals simp only [hgt_pair, wid_pair]
      all_goals omega
    · obtain ⟨u, v, rfl⟩ := bal_tall b1 (by omega)
      obtain ⟨b3, b4, h3, h4⟩ := bal_pair.mp b1
      rw [hgt_pair] at c d1 d2 h1 h2
      rename_i e
      rw [hgt_pair] at e
      refine ⟨bal_pair.mpr ⟨bal_pair.mpr ⟨bl, b3, by omega, by omega⟩, bal_pair.mpr ⟨b4, b2, by omega, by omega⟩, ?_, ?_⟩, ?_, ?_, ?_, ?_⟩
      all_goals simp only [hgt_pair, wid_pair]
      all_goals omega
  · split
    · rename_i c0 c
      obtain ⟨x, y, rfl⟩ := bal_tall bl (by omega)
      obtain ⟨b1, b2, h1, h2⟩ := bal_pair.mp bl
      rw [hgt_pair] at c d1 d2
      show EvOk (.pair x y) r (if y.hgt ≤ x.hgt then _ else _)
      split
      · refine ⟨bal_pair.mpr ⟨b1, bal_pair.mpr ⟨b2, br, by omega, by omega⟩, ?_, ?_⟩, ?_, ?_, ?_, ?_⟩
        all_goals simp only [hgt_pair, wid_pair]
        all_goals omega
      · obtain ⟨u, v, rfl⟩ := bal_tall b2 (by omega)
        obtain ⟨b3, b4, h3, h4⟩ := bal_pair.mp b2
        rw [hgt_pair] at c d1 d2 h1 h2
        rename_i e
        rw [hgt_pair] at e
        refine ⟨bal_pair.mpr ⟨bal_pair.mpr ⟨b1, b3, by omega, by omega⟩, bal_pair.mpr ⟨b4, br, by omega, by omega⟩, ?_, ?_⟩, ?_, ?_, ?_, ?_⟩
        all_goals simp only [hgt_pair, wid_pair]
        all_goals omega
    · refine ⟨bal_pair.mpr ⟨bl, br, by omega, by omega⟩, rfl, fun _ _ => rfl, ?_, ?_⟩
      all_goals simp only [hgt_pair]
      all_goals omega
/-! two side by side -/
def joinF : Nat → Th → Th → Th
  | 0, l, r => .pair l r
  | n + 1, l, r => if l.hgt > r.hgt + 1 then (match l with | .pair a b => evenP a (joinF n b r) | _ => .one) else
    if r.hgt > l.hgt + 1 then (match r with | .pair a b => evenP (joinF n l a) b | _ => .one) else .pair l r
theorem joinF_ok : ∀ (n : Nat) {l r : Th}, l.isBal = true → r.isBal = true → l.hgt + r.hgt < n → (joinF n l r).isBal = true ∧ (joinF n l r).wid = l.wid + r.wid ∧ max l.hgt r.hgt ≤ (joinF n l r).hgt ∧ (joinF n l r).hgt ≤ 1 + max l.hgt r.hgt
  | 0, l, r, _, _, h => by omega
  | n + 1, l, r, bl, br, h => by
    unfold joinF
    split
    · rename_i c
      obtain ⟨x, y, rfl⟩ := bal_tall bl (by omega)
      obtain ⟨b1, b2, h1, h2⟩ := bal_pair.mp bl
      rw [hgt_pair] at c h
      obtain ⟨i1, i2, i3, i4⟩ := joinF_ok n b2 br (by omega)
      have e := evenP_ok b1 i1 (by omega) (by omega)
      obtain ⟨e1, e2, e3, e4, e5⟩ := e
      refine ⟨e1, ?_, ?_, ?_⟩
      · show (evenP x (joinF n y r)).wid = _
        rw [e2, i2, wid_pair]
        omega
      · show _ ≤ (evenP x (joinF n y r)).hgt
        rw [hgt_pair]
        by_cases q : x.hgt ≤ (joinF n y r).hgt + 1 ∧ (joinF n y r).hgt ≤ x.hgt + 1
        · rw [e3 q.1 q.2]
          omega
        · omega
      · show (evenP x (joinF n y r)).hgt ≤ _
        rw [hgt_pair]
        omega
    · split
      · rename_i c0 c
        obtain ⟨x, y, rfl⟩ := bal_tall br (by omega)
        obtain ⟨b1, b2, h1, h2⟩ := bal_pair.mp br
        rw [hgt_pair] at c h
        obtain ⟨i1, i2, i3, i4⟩ := joinF_ok n bl b1 (by omega)
        have e := evenP_ok i1 b2 (by omega) (by omega)
        obtain ⟨e1, e2, e3, e4, e5⟩ := e
        refine ⟨e1, ?_, ?_, ?_⟩
        · show (evenP (joinF n l x) y).wid = _
          rw [e2, i2, wid_pair]
          omega
        · show _ ≤ (evenP (joinF n l x) y).hgt
          rw [hgt_pair]
          by_cases q : (joinF n l x).hgt ≤ y.hgt + 1 ∧ y.hgt ≤ (joinF n l x).hgt + 1
          · rw [e3 q.1 q.2]
            omega
          · omega
        · show (evenP (joinF n l x) y).hgt ≤ _
          rw [hgt_pair]
          omega
      · refine ⟨bal_pair.mpr ⟨bl, br, by omega, by omega⟩, rfl, ?_, ?_⟩
        all_goals simp only [hgt_pair]
        all_goals omega
def joinT (l r : Th) : Th := joinF 50 l r
theorem joinT_ok {l r : Th} (bl : l.isBal = true) (br : r.isBal = true) (wl : l.wid ≤ 40000) (wr : r.wid ≤ 40000) : (joinT l r).isBal = true ∧ (joinT l r).wid = l.wid + r.wid := by
  have h1 := bal_hgtM bl wl
  have h2 := bal_hgtM br wr
  have := joinF_ok 50 bl br (by omega)
  exact ⟨this.1, this.2.1⟩
def joinO : Option Th → Option Th → Option Th
  | none, r => r
  | some l, none => some l
  | some l, some r => some (joinT l r)
/-! cut in two -/
def cutT : Th → Nat → Option Th × Option Th
  | .pair l r, m => if m = 0 then (none, some (.pair l r)) else if m = l.wid + r.wid then (some (.pair l r), none) else
    if m ≤ l.wid then ((cutT l m).1, joinO (cutT l m).2 (some r)) else (joinO (some l) (cutT r (m - l.wid)).1, (cutT r (m - l.wid)).2)
  | t, m => if m = 0 then (none, some t) else (some t, none)
/-- a part of so many children -/
def PartOk (p : Option Th) (m : Nat) : Prop := (m = 0 ∧ p = none) ∨ ∃ t, p = some t ∧ t.isBal = true ∧ t.wid = m
theorem bal_wid {t : Th} (h : t.isBal = true) : 0 < t.wid := t.wid_pos (t.bal_sh h)
theorem joinO_ok {p q : Option Th} {m n : Nat} (hp : PartOk p m) (hq : PartOk q n) (h1 : m ≤ 40000) (h2 : n ≤ 40000) : PartOk (joinO p q) (m + n) := by
  rcases hp with ⟨rfl, rfl⟩ | ⟨t, rfl, b1, rfl⟩
  · rw [Nat.zero_add]
    exact hq
  · rcases hq with ⟨rfl, rfl⟩ | ⟨u, rfl, b2, rfl⟩
    · exact .inr ⟨t, rfl, b1, rfl⟩
    · obtain ⟨e1, e2⟩ := joinT_ok b1 b2 h1 h2
      exact .inr ⟨_, rfl, e1, e2⟩
theorem cutT_ok : ∀ {t : Th} {m : Nat}, t.isBal = true → m ≤ t.wid → t.wid ≤ 40000 → PartOk (cutT t m).1 m ∧ PartOk (cutT t m).2 (t.wid - m)
  | .one, m, _, h, _ => by
    have h : m ≤ 1 := h
    show PartOk (if m = 0 then ((none : Option Th), some Th.one) else (some Th.one, (none : Option Th))).1 m ∧ PartOk (if m = 0 then ((none : Option Th), some Th.one) else (some Th.one, (none : Option Th))).2 (1 - m)
    by_cases c : m = 0
    · rw [if_pos c]
      subst c
      exact ⟨.inl ⟨rfl, rfl⟩, .inr ⟨_, rfl, rfl, rfl⟩⟩
    · rw [if_neg c, show m = 1 by omega]
      exact ⟨.inr ⟨_, rfl, rfl, rfl⟩, .inl ⟨rfl, rfl⟩⟩
  | .other, m, b, _, _ => by cases b
  | .pair l r, m, b, h, hw => by
    obtain ⟨b1, b2, h1, h2⟩ := bal_pair.mp b
    rw [wid_pair] at h hw ⊢
    have p1 := bal_wid b1
    have p2 := bal_wid b2
    unfold cutT
    split
    · rename_i c
      subst c
      exact ⟨.inl ⟨rfl, rfl⟩, .inr ⟨_, rfl, b, rfl⟩⟩
    · split
      · rename_i c
        exact ⟨.inr ⟨_, rfl, b, by rw [c]; rfl⟩, .inl ⟨by omega, rfl⟩⟩
      · split
        · obtain ⟨i1, i2⟩ := cutT_ok b1 (show m ≤ l.wid by omega) (by omega)
          refine ⟨i1, ?_⟩
          have := joinO_ok i2 (.inr ⟨r, rfl, b2, rfl⟩) (by omega) (by omega)
          rw [show l.wid - m + r.wid = l.wid + r.wid - m by omega] at this
          exact this
        · obtain ⟨i1, i2⟩ := cutT_ok b2 (show m - l.wid ≤ r.wid by omega) (by omega)
          have := joinO_ok (.inr ⟨l, rfl, b1, rfl⟩) i1 (by omega) (by omega)
          rw [show l.wid + (m - l.wid) = m by omega] at this
          refine ⟨this, ?_⟩
          rw [show r.wid - (m - l.wid) = l.wid + r.wid - m by omega] at i2
          exact i2
/-! a child put in and taken out -/
def withT : Th → Nat → Th
  | .pair l r, p => if p ≤ l.wid then evenP (withT l p) r else evenP l (withT r (p - l.wid))
  | _, _ => .pair .one .one
theorem withT_ok : ∀ {t : Th} {p : Nat}, t.isBal = true → (withT t p).isBal = true ∧ (withT t p).wid = t.wid + 1 ∧ t.hgt ≤ (withT t p).hgt ∧ (withT t p).hgt ≤ t.hgt + 1
  | .one, p, _ => ⟨rfl, rfl, Nat.zero_le _, Nat.le_refl 1⟩
  | .other, p, b => by cases b
  | .pair l r, p, b => by
    obtain ⟨b1, b2, h1, h2⟩ := bal_pair.mp b
    rw [wid_pair, hgt_pair]
    unfold withT
    split
    · obtain ⟨i1, i2, i3, i4⟩ := withT_ok (p := p) b1
      obtain ⟨e1, e2, e3, e4, e5⟩ := evenP_ok i1 b2 (by omega) (by omega)
      refine ⟨e1, by omega, ?_, ?_⟩
      · by_cases q : (withT l p).hgt ≤ r.hgt + 1 ∧ r.hgt ≤ (withT l p).hgt + 1
        · rw [e3 q.1 q.2]
          omega
        · omega
      · by_cases q : (withT l p).hgt ≤ r.hgt + 1 ∧ r.hgt ≤ (withT l p).hgt + 1
        · rw [e3 q.1 q.2]
          omega
        · omega
    · obtain ⟨i1, i2, i3, i4⟩ := withT_ok (p := p - l.wid) b2
      obtain ⟨e1, e2, e3, e4, e5⟩ := evenP_ok b1 i1 (by omega) (by omega)
      refine ⟨e1, by omega, ?_, ?_⟩
      · by_cases q : l.hgt ≤ (withT r (p - l.wid)).hgt + 1 ∧ (withT r (p - l.wid)).hgt ≤ l.hgt + 1
        · rw [e3 q.1 q.2]
          omega
        · omega
      · by_cases q : l.hgt ≤ (withT r (p - l.wid)).hgt + 1 ∧ (withT r (p - l.wid)).hgt ≤ l.hgt + 1
        · rw [e3 q.1 q.2]
          omega
        · omega
def lessT : Th → Nat → Option Th
  | .pair l r, p => if p < l.wid then (match lessT l p with | none => some r | some t => some (evenP t r)) else
    match lessT r (p - l.wid) with | none => some l | some t => some (evenP l t)
  | _, _ => none
theorem lessT_ok : ∀ {t : Th} {p : Nat}, t.isBal = true → (lessT t p = none ∧ t.wid = 1 ∧ t.hgt = 0) ∨ ∃ u, lessT t p = some u ∧ u.isBal = true ∧ u.wid + 1 = t.wid ∧ u.hgt ≤ t.hgt ∧ t.hgt ≤ u.hgt + 1
  | .one, p, _ => .inl ⟨rfl, rfl, rfl⟩
  | .other, p, b => by cases b
  | .pair l r, p, b => by
    obtain ⟨b1, b2, h1, h2⟩ := bal_pair.mp b
    have p1 := bal_wid b1
    have p2 := bal_wid b2
    rw [wid_pair, hgt_pair]
    refine .inr ?_
    unfold lessT
    split
    · rcases lessT_ok (p := p) b1 with ⟨i1, i2, i3⟩ | ⟨u, i1, i2, i3, i4, i5⟩
      · rw [i1]
        exact ⟨r, rfl, b2, by omega, by omega, by omega⟩
      · rw [i1]
        obtain ⟨e1, e2, e3, e4, e5⟩ := evenP_ok i2 b2 (by omega) (by omega)
        refine ⟨_, rfl, e1, by omega, ?_, ?_⟩
        · by_cases q : u.hgt ≤ r.hgt + 1 ∧ r.hgt ≤ u.hgt + 1
          · rw [e3 q.1 q.2]
            omega
          · omega
        · by_cases q : u.hgt ≤ r.hgt + 1 ∧ r.hgt ≤ u.hgt + 1
          · rw [e3 q.1 q.2]
            omega
          · omega
    · rcases lessT_ok (p := p - l.wid) b2 with ⟨i1, i2, i3⟩ | ⟨u, i1, i2, i3, i4, i5⟩
      · rw [i1]
        exact ⟨l, rfl, b1, by omega, by omega, by omega⟩
      · rw [i1]
        obtain ⟨e1, e2, e3, e4, e5⟩ := evenP_ok b1 i2 (by omega) (by omega)
        refine ⟨_, rfl, e1, by omega, ?_, ?_⟩
        · by_cases q : l.hgt ≤ u.hgt + 1 ∧ u.hgt ≤ l.hgt + 1
          · rw [e3 q.1 q.2]
            omega
          · omega
        · by_cases q : l.hgt ≤ u.hgt + 1 ∧ u.hgt ≤ l.hgt + 1
          · rw [e3 q.1 q.2]
            omega
          · omega
/-- a tree or None -/
def StO (C : Addr) (H : Hp) (v : V) (p : Option Th) : Prop := (v = .non ∧ p = none) ∨ ∃ t, p = some t ∧ StAt C H v t
theorem StO.same {C : Addr} {H H' : Hp} {v : V} {p : Option Th} (s : Same H H') (h : StO C H v p) : StO C H' v p := by
  rcases h with h | ⟨t, e, h⟩
  · exact .inl h
  · exact .inr ⟨t, e, h.same s⟩
def hgtO : Option Th → Nat
  | none => 0
  | some t => t.hgt
def BalO (p : Option Th) : Prop := ∀ t, p = some t → t.isBal = true
def joinFO (n : Nat) : Option Th → Option Th → Option Th
  | none, r => r
  | some l, none => some l
  | some l, some r => some (joinF n l r)
theorem joinFO_joinO (p q : Option Th) : joinFO 50 p q = joinO p q := by
  cases p <;> cases q <;> rfl
theorem PartOk.bal {p : Option Th} {m : Nat} (h : PartOk p m) : BalO p := fun t e => by
  rcases h with ⟨_, z⟩ | ⟨u, z, b, _⟩
  · rw [z] at e; cases e
  · rw [z] at e; cases e; exact b
theorem PartOk.hgt {p : Option Th} {m : Nat} (h : PartOk p m) (hm : m ≤ 20000) : hgtO p ≤ 20 := by
  rcases h with ⟨_, z⟩ | ⟨u, z, b, e⟩
  · rw [z]; exact Nat.zero_le _
  · rw [z]; exact bal_hgt b (by omega)

/-! ### xs[:0:-1]: all but the first, the last one first -/
theorem pick_all {α : Type} : ∀ l : List α, (List.range l.length).filterMap (fun k => l[k]?) = l
  | [] => rfl
  | x :: xs => by
    rw [List.length_cons, List.range_succ_eq_map, List.filterMap_cons]
    show x :: (List.map Nat.succ (List.range xs.length)).filterMap (fun k => (x :: xs)[k]?) = x :: xs
    rw [List.filterMap_map]
    congr 1
    exact pick_all xs
theorem fm_congr {α β : Type} {f g : α → Option β} : ∀ {l : List α}, (∀ x ∈ l, f x = g x) → l.filterMap f = l.filterMap g
  | [], _ => rfl
  | x :: xs, h => by
    rw [List.filterMap_cons, List.filterMap_cons, h x List.mem_cons_self, fm_congr fun y hy => h y (List.mem_cons_of_mem _ hy)]
theorem pick_rev (its : List Value) : slicePick its.toArray none (some 0) (some (-1)) = (its.drop 1).reverse.toArray := by
  unfold slicePick
  cases its with
  | nil => rfl
  | cons x xs =>
    have b : sliceBounds none (some 0) (some (-1)) (x :: xs).toArray.size = ((xs.length : Int), 0, -1) := by
      show ((((xs.length + 1 : Nat) : Int) - 1), max (-1 : Int) (min 0 (((xs.length + 1 : Nat) : Int) - 1)), (-1 : Int)) = _
      refine Prod.ext ?_ (Prod.ext ?_ rfl)
      · show ((xs.length + 1 : Nat) : Int) - 1 = xs.length
        omega
      · show max (-1 : Int) (min 0 (((xs.length + 1 : Nat) : Int) - 1)) = 0
        omega
    rw [b]
    show ((sliceRange (xs.length : Int) 0 (-1)).filterMap fun k => (x :: xs).toArray[k]?).toArray = xs.reverse.toArray
    have r : sliceRange (xs.length : Int) 0 (-1) = (List.range xs.length).map fun k => xs.length - k := by
      unfold sliceRange
      have c : (if (-1 : Int) > 0 then (if (xs.length : Int) < 0 then (0 - (xs.length : Int) + -1 - 1) / -1 else 0) else (if (xs.length : Int) > 0 then ((xs.length : Int) - 0 - -1 - 1) / (- -1) else 0)) = (xs.length : Int) := by
        rw [if_neg (by decide)]
        split
        · rw [show (- -1 : Int) = 1 from rfl, Int.ediv_one]
          omega
        · omega
      show (List.range (Int.toNat (if (-1 : Int) > 0 then (if (xs.length : Int) < 0 then (0 - (xs.length : Int) + -1 - 1) / -1 else 0) else (if (xs.length : Int) > 0 then ((xs.length : Int) - 0 - -1 - 1) / (- -1) else 0)))).map _ = _
      rw [c, Int.toNat_natCast]
      refine List.map_congr_left fun k hk => ?_
      have := List.mem_range.mp hk
      omega
    rw [r, List.filterMap_map]
    congr 1
    have e := pick_all xs.reverse
    rw [List.length_reverse] at e
    rw [← e]
    refine fm_congr fun k hk => ?_
    have hk := List.mem_range.mp hk
    show (x :: xs).toArray[xs.length - k]? = xs.reverse[k]?
    rw [List.getElem?_reverse hk, List.getElem?_toArray, show xs.length - k = (xs.length - 1 - k) + 1 by omega, List.getElem?_cons_succ]
def tSlR (K : PySem.W.Frag) (te th ts : TE) : TE := fun σ H Q => te σ H fun x H1 => th σ H1 fun j H2 => j = .int 0 ∧ ts σ H2 fun k H3 => k = .int (-1) ∧ ∃ a xs, x = .ref a ∧ SqL K H3 a xs ∧ ∀ p, H3 p = none → Q (.ref p) (upd H3 p (.lst (xs.drop 1).reverse))
theorem pe_slRev {X : Cx} {e hi st : Expr} {te th ts : TE} {p2 pos : Pos} (he : PE X e te) (hu : PE X hi th) (hs : PE X st ts) : PE X (.Subscript e (.Slice none (some hi) (some st) p2) pos) (tSlR X.K te th ts) := by
  refine ⟨fun pins s σ H Q I h => ?_⟩
  refine Subscript_ (thn (he.run pins s σ H _ I h) fun v s1 ⟨x, H1, I1, r1, q1⟩ => ?_)
  refine wpAny_Slice ?_
  rw [evalPart_none]
  refine wpAny_pure ?_
  rw [evalPart_some]
  refine thn (hu.run pins s1 σ H1 _ I1 q1) fun vu s2 ⟨j, H2, I2, pj, ej, q2⟩ => ?_
  rw [evalPart_some]
  refine thn (hs.run pins s2 σ H2 _ I2 q2) fun vs s3 ⟨k, H3, I3, pk, ek, a, xs, ex, hx, q3⟩ => ?_
  subst ej
  subst ek
  subst ex
  cases (show v = Value.ref a from r1)
  obtain ⟨tj, rfl⟩ := pj
  obtain ⟨tk, rfl⟩ := pk
  have I4 : Inv X pins σ H3 { s3 with heap := s3.heap.push { cls := .type "slice", data := .fields #[.none, .int 0 tj, .int (-1) tk] } } := I3.kept (t' := s3.toks) fun b ob q => Heap.get?_push_of_some _ q
  obtain ⟨its, r, ht, hz⟩ := I4.list hx
  show wpAny (model X.prog X.w) X.A (subscriptTail e (.Slice none (some hi) (some st) p2) (.ref a) (.ref s3.heap.objs.size)) (EP X pins σ Q) X.xe { s3 with heap := s3.heap.push { cls := .type "slice", data := .fields #[.none, .int 0 tj, .int (-1) tk] } }
  refine tail_any (ops := [.ref a, .ref s3.heap.objs.size]) ht.isList.typeIs slot_list_getitem.lookup ?_ (by with_unfolding_all rfl)
  refine wpAny_getItem_list_slice (lo := none) (hi := some 0) (st := some (-1)) ht.isList (Heap.IsSliceOf.new ..) .none (.int 0 tj) (.int (-1) tk) (by simp) ?_ (by rw [List.size_toArray, ← r.length]; exact hz)
  rw [pick_rev]
  refine ⟨.ref (s3.heap.push { cls := .type "slice", data := .fields #[.none, .int 0 tj, .int (-1) tk] }).objs.size, _, I4.laid (t' := s3.toks) (o := .lst (xs.drop 1).reverse) (fun b ob q => Heap.get?_push_of_some _ q) (Nat.le_refl _) ?_, rfl, q3 _ (I4.hok.fresh (Nat.le_refl _))⟩
  exact ⟨by rw [List.length_reverse, List.length_drop]; omega, _, 0, paired_rev (r.drop 1), Heap.get?_push_size _ rfl⟩

/-! ### heaps that go on -/
theorem Same.but {H H1 H2 : Hp} {p : Addr} (s : Same H H1) (np : H p = none) (b : But p H1 H2) : Same H H2 := fun c o h =>
  b c o (fun z => by rw [z, np] at h; cases h) (s c o h)

def topS (i : Nat) : Stmt := PySem.Challenge.pw_everymatch_k65_whole_rows_of_shape_deeds.main.body.getD i (.Pass ⟨0, 0, 0, 0⟩)
abbrev s_is_integer : Stmt := topS 7
abbrev nm_is_integer : List Str := ["thing"]
theorem sc_is_integer : FnScope nm_is_integer ["thing"] (defScope s_is_integer) := ⟨rfl, rfl, rfl, by decide +kernel, rfl, by decide +kernel, by decide +kernel⟩
abbrev s_need_count : Stmt := topS 8
abbrev nm_need_count : List Str := ["thing", "most"]
theorem sc_need_count : FnScope nm_need_count ["thing", "most"] (defScope s_need_count) := ⟨rfl, rfl, rfl, by decide +kernel, rfl, by decide +kernel, by decide +kernel⟩
abbrev s_tallest_of : Stmt := topS 13
abbrev nm_tallest_of : List Str := ["width", "height", "least", "more"]
theorem sc_tallest_of : FnScope nm_tallest_of ["width"] (defScope s_tallest_of) := ⟨rfl, rfl, rfl, by decide +kernel, rfl, by decide +kernel, by decide +kernel⟩
abbrev s_width_in : Stmt := topS 14
abbrev nm_width_in : List Str := ["thing", "most", "left", "right"]
theorem sc_width_in : FnScope nm_width_in ["thing", "most"] (defScope s_width_in) := ⟨rfl, rfl, rfl, by decide +kernel, rfl, by decide +kernel, by decide +kernel⟩
abbrev s_height_in : Stmt := topS 15
abbrev nm_height_in : List Str := ["shape"]
theorem sc_height_in : FnScope nm_height_in ["shape"] (defScope s_height_in) := ⟨rfl, rfl, rfl, by decide +kernel, rfl, by decide +kernel, by decide +kernel⟩
abbrev s_balanced_height : Stmt := topS 16
abbrev nm_balanced_height : List Str := ["shape", "left", "right"]
theorem sc_balanced_height : FnScope nm_balanced_height ["shape"] (defScope s_balanced_height) := ⟨rfl, rfl, rfl, by decide +kernel, rfl, by decide +kernel, by decide +kernel⟩
abbrev s_stem_of : Stmt := topS 17
abbrev nm_stem_of : List Str := ["shape"]
theorem sc_stem_of : FnScope nm_stem_of ["shape"] (defScope s_stem_of) := ⟨rfl, rfl, rfl, by decide +kernel, rfl, by decide +kernel, by decide +kernel⟩
abbrev s_shape_of : Stmt := topS 18
abbrev nm_shape_of : List Str := ["tree"]
theorem sc_shape_of : FnScope nm_shape_of ["tree"] (defScope s_shape_of) := ⟨rfl, rfl, rfl, by decide +kernel, rfl, by decide +kernel, by decide +kernel⟩
abbrev s_even_pair : Stmt := topS 19
abbrev nm_even_pair : List Str := ["builder", "left", "right", "inner", "outer", "one", "other"]
theorem sc_even_pair : FnScope nm_even_pair ["builder", "left", "right"] (defScope s_even_pair) := ⟨rfl, rfl, rfl, by decide +kernel, rfl, by decide +kernel, by decide +kernel⟩
abbrev s_row_joined : Stmt := topS 20
abbrev nm_row_joined : List Str := ["builder", "left", "right", "first", "last"]
theorem sc_row_joined : FnScope nm_row_joined ["builder", "left", "right"] (defScope s_row_joined) := ⟨rfl, rfl, rfl, by decide +kernel, rfl, by decide +kernel, by decide +kernel⟩
abbrev s_row_cut : Stmt := topS 21
abbrev nm_row_cut : List Str := ["builder", "tree", "many", "left", "right", "first", "last"]
theorem sc_row_cut : FnScope nm_row_cut ["builder", "tree", "many"] (defScope s_row_cut) := ⟨rfl, rfl, rfl, by decide +kernel, rfl, by decide +kernel, by decide +kernel⟩
abbrev s_row_with : Stmt := topS 22
abbrev nm_row_with : List Str := ["builder", "tree", "place", "child", "left", "right"]
theorem sc_row_with : FnScope nm_row_with ["builder", "tree", "place", "child"] (defScope s_row_with) := ⟨rfl, rfl, rfl, by decide +kernel, rfl, by decide +kernel, by decide +kernel⟩
abbrev s_row_without : Stmt := topS 23
abbrev nm_row_without : List Str := ["builder", "tree", "place", "left", "right", "less"]
theorem sc_row_without : FnScope nm_row_without ["builder", "tree", "place"] (defScope s_row_without) := ⟨rfl, rfl, rfl, by decide +kernel, rfl, by decide +kernel, by decide +kernel⟩
abbrev s_need_shape : Stmt := topS 25
abbrev nm_need_shape : List Str := ["shape", "width"]
theorem sc_need_shape : FnScope nm_need_shape ["shape"] (defScope s_need_shape) := ⟨rfl, rfl, rfl, by decide +kernel, rfl, by decide +kernel, by decide +kernel⟩
abbrev s_need_balanced : Stmt := topS 26
abbrev nm_need_balanced : List Str := ["shape", "width"]
theorem sc_need_balanced : FnScope nm_need_balanced ["shape"] (defScope s_need_balanced) := ⟨rfl, rfl, rfl, by decide +kernel, rfl, by decide +kernel, by decide +kernel⟩
abbrev s_is_shape : Stmt := topS 27
abbrev nm_is_shape : List Str := ["thing"]
theorem sc_is_shape : FnScope nm_is_shape ["thing"] (defScope s_is_shape) := ⟨rfl, rfl, rfl, by decide +kernel, rfl, by decide +kernel, by decide +kernel⟩
abbrev s_is_balanced : Stmt := topS 28
abbrev nm_is_balanced : List Str := ["shape"]
theorem sc_is_balanced : FnScope nm_is_balanced ["shape"] (defScope s_is_balanced) := ⟨rfl, rfl, rfl, by decide +kernel, rfl, by decide +kernel, by decide +kernel⟩
abbrev s_width_of : Stmt := topS 29
abbrev nm_width_of : List Str := ["shape"]
theorem sc_width_of : FnScope nm_width_of ["shape"] (defScope s_width_of) := ⟨rfl, rfl, rfl, by decide +kernel, rfl, by decide +kernel, by decide +kernel⟩
abbrev s_height_of : Stmt := topS 30
abbrev nm_height_of : List Str := ["shape"]
theorem sc_height_of : FnScope nm_height_of ["shape"] (defScope s_height_of) := ⟨rfl, rfl, rfl, by decide +kernel, rfl, by decide +kernel, by decide +kernel⟩
abbrev s_tallest : Stmt := topS 31
abbrev nm_tallest : List Str := ["width"]
theorem sc_tallest : FnScope nm_tallest ["width"] (defScope s_tallest) := ⟨rfl, rfl, rfl, by decide +kernel, rfl, by decide +kernel, by decide +kernel⟩
abbrev s_joined_shapes : Stmt := topS 32
abbrev nm_joined_shapes : List Str := ["shape", "other", "width"]
theorem sc_joined_shapes : FnScope nm_joined_shapes ["shape", "other"] (defScope s_joined_shapes) := ⟨rfl, rfl, rfl, by decide +kernel, rfl, by decide +kernel, by decide +kernel⟩
abbrev s_cut_shape : Stmt := topS 33
abbrev nm_cut_shape : List Str := ["shape", "many", "first", "last"]
theorem sc_cut_shape : FnScope nm_cut_shape ["shape", "many"] (defScope s_cut_shape) := ⟨rfl, rfl, rfl, by decide +kernel, rfl, by decide +kernel, by decide +kernel⟩
abbrev s_put_shape : Stmt := topS 34
abbrev nm_put_shape : List Str := ["shape", "place", "width", "tree"]
theorem sc_put_shape : FnScope nm_put_shape ["shape", "place"] (defScope s_put_shape) := ⟨rfl, rfl, rfl, by decide +kernel, rfl, by decide +kernel, by decide +kernel⟩
abbrev s_taken_shape : Stmt := topS 35
abbrev nm_taken_shape : List Str := ["shape", "place"]
theorem sc_taken_shape : FnScope nm_taken_shape ["shape", "place"] (defScope s_taken_shape) := ⟨rfl, rfl, rfl, by decide +kernel, rfl, by decide +kernel, by decide +kernel⟩
abbrev s__law_feed : Stmt := topS 37
abbrev nm__law_feed : List Str := ["script", "k", "cell"]
theorem sc__law_feed : FnScope nm__law_feed ["script", "k"] (defScope s__law_feed) := ⟨rfl, rfl, rfl, by decide +kernel, rfl, by decide +kernel, by decide +kernel⟩
abbrev s__law_draw : Stmt := topS 38
abbrev nm__law_draw : List Str := ["feed", "many", "rest", "got", "stir"]
theorem sc__law_draw : FnScope nm__law_draw ["feed", "many"] (defScope s__law_draw) := ⟨rfl, rfl, rfl, by decide +kernel, rfl, by decide +kernel, by decide +kernel⟩
abbrev s__law_one : Stmt := topS 39
abbrev nm__law_one : List Str := ["feed", "things"]
theorem sc__law_one : FnScope nm__law_one ["feed", "things"] (defScope s__law_one) := ⟨rfl, rfl, rfl, by decide +kernel, rfl, by decide +kernel, by decide +kernel⟩
abbrev s__law_least : Stmt := topS 40
abbrev nm__law_least : List Str := ["height", "least", "more", "turn"]
theorem sc__law_least : FnScope nm__law_least ["height"] (defScope s__law_least) := ⟨rfl, rfl, rfl, by decide +kernel, rfl, by decide +kernel, by decide +kernel⟩
abbrev s__law_tallest : Stmt := topS 41
abbrev nm__law_tallest : List Str := ["width", "height"]
theorem sc__law_tallest : FnScope nm__law_tallest ["width"] (defScope s__law_tallest) := ⟨rfl, rfl, rfl, by decide +kernel, rfl, by decide +kernel, by decide +kernel⟩
abbrev s__law_balanced : Stmt := topS 42
abbrev nm__law_balanced : List Str := ["feed", "width", "height", "ways", "left", "right", "low", "high", "first"]
theorem sc__law_balanced : FnScope nm__law_balanced ["feed", "width", "height"] (defScope s__law_balanced) := ⟨rfl, rfl, rfl, by decide +kernel, rfl, by decide +kernel, by decide +kernel⟩
abbrev s__law_any_balanced : Stmt := topS 43
abbrev nm__law_any_balanced : List Str := ["feed", "most", "width", "low"]
theorem sc__law_any_balanced : FnScope nm__law_any_balanced ["feed", "most"] (defScope s__law_any_balanced) := ⟨rfl, rfl, rfl, by decide +kernel, rfl, by decide +kernel, by decide +kernel⟩
abbrev s__law_sizes : Stmt := topS 44
abbrev nm__law_sizes : List Str := ["shape", "one", "other"]
theorem sc__law_sizes : FnScope nm__law_sizes ["shape"] (defScope s__law_sizes) := ⟨rfl, rfl, rfl, by decide +kernel, rfl, by decide +kernel, by decide +kernel⟩
abbrev s__law_held : Stmt := topS 45
abbrev nm__law_held : List Str := ["shape", "width", "sizes"]
theorem sc__law_held : FnScope nm__law_held ["shape", "width"] (defScope s__law_held) := ⟨rfl, rfl, rfl, by decide +kernel, rfl, by decide +kernel, by decide +kernel⟩
abbrev s__law_deed : Stmt := topS 46
abbrev nm__law_deed : List Str := ["feed", "held", "at", "shape", "width", "other", "way", "made", "many", "place"]
theorem sc__law_deed : FnScope nm__law_deed ["feed", "held"] (defScope s__law_deed) := ⟨rfl, rfl, rfl, by decide +kernel, rfl, by decide +kernel, by decide +kernel⟩
abbrev s__law_all_joined : Stmt := topS 47
abbrev nm__law_all_joined : List Str := ["held", "shape", "width", "other", "more", "parts"]
theorem sc__law_all_joined : FnScope nm__law_all_joined ["held"] (defScope s__law_all_joined) := ⟨rfl, rfl, rfl, by decide +kernel, rfl, by decide +kernel, by decide +kernel⟩
abbrev s_law : Stmt := topS 48
abbrev nm_law : List Str := ["script", "feed", "held", "turn", "shape", "k", "gone", "made", "again", "widths", "width", "at"]
theorem sc_law : FnScope nm_law ["script"] (defScope s_law) := ⟨rfl, rfl, rfl, by decide +kernel, rfl, by decide +kernel, by decide +kernel⟩
abbrev s_Stem_init : Stmt := match topS 11 with | .ClassDef _ _ _ b _ _ _ _ _ _ _ => b.getD 0 (.Pass ⟨0, 0, 0, 0⟩) | _ => .Pass ⟨0, 0, 0, 0⟩
abbrev nm_Stem_init : List Str := ["self", "left", "right"]
theorem sc_Stem_init : FnScope nm_Stem_init ["self", "left", "right"] (defScope s_Stem_init) := ⟨rfl, rfl, rfl, by decide +kernel, rfl, by decide +kernel, by decide +kernel⟩
abbrev s_Builder_pair : Stmt := match topS 12 with | .ClassDef _ _ _ b _ _ _ _ _ _ _ => b.getD 0 (.Pass ⟨0, 0, 0, 0⟩) | _ => .Pass ⟨0, 0, 0, 0⟩
abbrev nm_Builder_pair : List Str := ["self", "left", "right"]
theorem sc_Builder_pair : FnScope nm_Builder_pair ["self", "left", "right"] (defScope s_Builder_pair) := ⟨rfl, rfl, rfl, by decide +kernel, rfl, by decide +kernel, by decide +kernel⟩
abbrev s_Builder_sides : Stmt := match topS 12 with | .ClassDef _ _ _ b _ _ _ _ _ _ _ => b.getD 1 (.Pass ⟨0, 0, 0, 0⟩) | _ => .Pass ⟨0, 0, 0, 0⟩
abbrev nm_Builder_sides : List Str := ["self", "tree"]
theorem sc_Builder_sides : FnScope nm_Builder_sides ["self", "tree"] (defScope s_Builder_sides) := ⟨rfl, rfl, rfl, by decide +kernel, rfl, by decide +kernel, by decide +kernel⟩
structure Top (K : PySem.W.Frag) (mg : Str → Option Value) (cMatchError cBadShape cBadCount cBadBalance cStem cBuilder : Addr) : Prop where
  d_is_integer : DefAt K mg "is_integer" s_is_integer ["thing"]
  d_need_count : DefAtD K mg "need_count" s_need_count ["thing", "most"] [.non]
  d_tallest_of : DefAt K mg "tallest_of" s_tallest_of ["width"]
  d_width_in : DefAt K mg "width_in" s_width_in ["thing", "most"]
  d_height_in : DefAt K mg "height_in" s_height_in ["shape"]
  d_balanced_height : DefAt K mg "balanced_height" s_balanced_height ["shape"]
  d_stem_of : DefAt K mg "stem_of" s_stem_of ["shape"]
  d_shape_of : DefAt K mg "shape_of" s_shape_of ["tree"]
  d_even_pair : DefAt K mg "even_pair" s_even_pair ["builder", "left", "right"]
  d_row_joined : DefAt K mg "row_joined" s_row_joined ["builder", "left", "right"]
  d_row_cut : DefAt K mg "row_cut" s_row_cut ["builder", "tree", "many"]
  d_row_with : DefAt K mg "row_with" s_row_with ["builder", "tree", "place", "child"]
  d_row_without : DefAt K mg "row_without" s_row_without ["builder", "tree", "place"]
  d_need_shape : DefAt K mg "need_shape" s_need_shape ["shape"]
  d_need_balanced : DefAt K mg "need_balanced" s_need_balanced ["shape"]
  d_is_shape : DefAt K mg "is_shape" s_is_shape ["thing"]
  d_is_balanced : DefAt K mg "is_balanced" s_is_balanced ["shape"]
  d_width_of : DefAt K mg "width_of" s_width_of ["shape"]
  d_height_of : DefAt K mg "height_of" s_height_of ["shape"]
  d_tallest : DefAt K mg "tallest" s_tallest ["width"]
  d_joined_shapes : DefAt K mg "joined_shapes" s_joined_shapes ["shape", "other"]
  d_cut_shape : DefAt K mg "cut_shape" s_cut_shape ["shape", "many"]
  d_put_shape : DefAt K mg "put_shape" s_put_shape ["shape", "place"]
  d_taken_shape : DefAt K mg "taken_shape" s_taken_shape ["shape", "place"]
  d__law_feed : DefAt K mg "_law_feed" s__law_feed ["script", "k"]
  d__law_draw : DefAt K mg "_law_draw" s__law_draw ["feed", "many"]
  d__law_one : DefAt K mg "_law_one" s__law_one ["feed", "things"]
  d__law_least : DefAt K mg "_law_least" s__law_least ["height"]
  d__law_tallest : DefAt K mg "_law_tallest" s__law_tallest ["width"]
  d__law_balanced : DefAt K mg "_law_balanced" s__law_balanced ["feed", "width", "height"]
  d__law_any_balanced : DefAt K mg "_law_any_balanced" s__law_any_balanced ["feed", "most"]
  d__law_sizes : DefAt K mg "_law_sizes" s__law_sizes ["shape"]
  d__law_held : DefAt K mg "_law_held" s__law_held ["shape", "width"]
  d__law_deed : DefAt K mg "_law_deed" s__law_deed ["feed", "held"]
  d__law_all_joined : DefAt K mg "_law_all_joined" s__law_all_joined ["held"]
  n_ValueError : mg "ValueError" = none
  n_abs : mg "abs" = none
  n_bool : mg "bool" = none
  n_int : mg "int" = none
  n_isinstance : mg "isinstance" = none
  n_len : mg "len" = none
  n_list : mg "list" = none
  n_max : mg "max" = none
  n_min : mg "min" = none
  n_range : mg "range" = none
  n_sum : mg "sum" = none
  n_tuple : mg "tuple" = none
  n_zip : mg "zip" = none
  v_MOST_NODES : ∃ u, mg "MOST_NODES" = some u ∧ RelV (.int 20000) u
  v_MOST_HEIGHT : ∃ u, mg "MOST_HEIGHT" = some u ∧ RelV (.int 40) u
  e_MatchError : ExcAt K mg "MatchError" cMatchError
  e_BadShape : ExcAt K mg "BadShape" cBadShape
  e_BadCount : ExcAt K mg "BadCount" cBadCount
  e_BadBalance : ExcAt K mg "BadBalance" cBadBalance
  k_Stem : ClsAt K mg "Stem" cStem ["left", "right", "width", "height"]
  k_Builder : ClsAt K mg "Builder" cBuilder []
  b_Builder : BareAt K cBuilder
  m_Stem_init : MethAt K cStem "__init__" "Stem.__init__" s_Stem_init ["self", "left", "right"]
  m_Builder_pair : MethAt K cBuilder "pair" "Builder.pair" s_Builder_pair ["self", "left", "right"]
  m_Builder_sides : MethAt K cBuilder "sides" "Builder.sides" s_Builder_sides ["self", "tree"]
section
variable {P : Program} {w : World} {K : PySem.W.Frag} {mg : Str → Option Value} {base : Heap} {cMatchError cBadShape cBadCount cBadBalance cStem cBuilder : Addr}
def spFeed (K : PySem.W.Frag) : Sp := fun vs H Q _ => ∃ (a : Addr) (ns : List Int) (k : Int), vs = [.ref a, .int k] ∧ SqL K H a (ns.map V.int) ∧ (∀ z ∈ ns, z.natAbs.log2 ≤ 1048576) ∧ 0 ≤ k ∧ k ≤ 1000 ∧
  ∀ H' p, Same H H' → H p = none → FeedAt H' p 0 → Q (.ref p) H'
theorem ok__law_feed (T : Top K mg cMatchError cBadShape cBadCount cBadBalance cStem cBuilder) : Cl P w K mg base 1 "_law_feed" ["script", "k"] (spFeed K) := by
  refine T.d__law_feed.ok sc__law_feed (fun vs H Q E h => ?_) (fun f cdv A outer s H vs Q E hr h => ?_)
  · obtain ⟨a, ns, k, rfl, _⟩ := h
    rfl
  · refine ⟨_, (pss_cons (ps_set (i := 2) sc__law_feed.nd rfl (.inl rfl) (pe_op op_add (pe_op op_mul pe_int (pv 1)) (pe_callB (cr_sum rfl) (by rfl) T.n_sum (by decide +kernel) (pa_cons (pe_slice sl_list (pv 0) po_none (po_some pe_int)) pa_nil))))
      (C8.pss_cut (ps_if (pt_cmpR op_lt (pv 1) (pe_callB call_len_seq (by rfl) T.n_len (by decide +kernel) (pa_cons (pv 0) pa_nil)) (nomark _)) (pss_one (ps_set (i := 2) sc__law_feed.nd rfl (.inl rfl) (pe_ix ix_list (pv 0) (pv 1) (fun _ _ => rfl)))) pss_nil)
      (pss_one (ps_ret (pe_lst (pa_cons (pe_callB (call_max2 rfl) (by rfl) T.n_max (by decide +kernel) (pa_cons pe_int (pa_cons (pe_op op_sub (pv 2) (pe_op op_pow pe_int pe_int)) pa_nil))) (pa_cons (pe_op op_mod (pe_callTy call_int1 (by rfl) T.n_int (by decide +kernel) (pa_cons (pe_op op_add (pe_op op_mul (pv 2) pe_int) (pe_op op_mul pe_int (pv 1))) pa_nil)) (pe_op op_add (pe_op op_pow pe_int pe_int) pe_int)) (pa_cons pe_int pa_nil)))))))), ?_⟩
    obtain ⟨a, ns, k, rfl, hS, hb, k0, k1, q⟩ := h
    refine ⟨_, rfl, _, _, rfl, rfl, .inl ⟨by decide, by decide⟩, _, rfl, 1, rfl, a, ns.map V.int, rfl, hS, fun p np => ?_⟩
    have s1 : Same H (upd H p (.lst (cutV (ns.map V.int) none (some 1)))) := same_new np
    refine ⟨p, ns.take 1, rfl, sqL_of (by rw [upd_same, show (some 1 : Option Int) = some ((1 : Nat) : Int) from rfl, cut_to, List.map_take]), _, _, rfl, rfl, ?_⟩
    have c0 : (977 * k + (ns.take 1).sum).natAbs.log2 ≤ 1050000 := by
      have h1 := log2_addI (977 * k) (ns.take 1).sum
      have h2 : (977 * k).natAbs.log2 < 32 := log2_lt_of (by omega) (by decide)
      have h3 : (ns.take 1).sum.natAbs.log2 ≤ 1048576 := by
        cases ns with
        | nil => show Nat.log2 0 ≤ _; decide
        | cons z r =>
          have : ((z :: r).take 1).sum = z := by
            show z + 0 = z
            omega
          rw [this]
          exact hb z List.mem_cons_self
      omega
    refine ⟨fun σ' H' => H' = upd H p (.lst (cutV (ns.map V.int) none (some 1))) ∧ ∃ cell : Int, σ' = [some (.ref a), some (.int k), some (.int cell)] ∧ cell.natAbs.log2 ≤ 1050000, ?_, ?_⟩
    · refine ⟨_, rfl, _, rfl, a, ns.map V.int, rfl, .inl (s1.seq hS), _, _, rfl, rfl, _, rfl, ?_⟩
      refine ite2 (fun e => ?_) (fun e => ?_)
      · have e1 : k < ((ns.map V.int).length : Int) := of_decide_eq_true e
        rw [List.length_map] at e1
        obtain ⟨j, rfl⟩ : ∃ j : Nat, k = j := ⟨k.toNat, by omega⟩
        have hj : j < ns.length := by omega
        refine ⟨_, rfl, _, rfl, a, _, _, _, rfl, rfl, s1.seq hS, atI_nat (j := j) (by rw [List.getElem?_map, List.getElem?_eq_getElem hj]; rfl), ?_⟩
        exact ⟨rfl, ns[j], rfl, Nat.le_trans (hb _ (List.getElem_mem hj)) (by decide)⟩
      · exact ⟨rfl, _, rfl, c0⟩
    · rintro σ' H' ⟨rfl, cell, rfl, cb⟩
      refine ⟨_, rfl, _, _, rfl, rfl, ⟨by decide, by decide, by decide⟩, _, _, rfl, rfl, _, _, rfl, ?_⟩
      refine ⟨_, rfl, _, _, rfl, rfl, .inr ⟨by decide, by decide⟩, _, rfl, _, _, rfl, rfl, .inl ⟨by decide, by decide⟩, _, _, rfl, rfl, .inl ⟨_, rfl, ?_⟩⟩
      refine ⟨_, _, rfl, rfl, ⟨by decide, by decide, by decide⟩, _, _, rfl, rfl, _, _, rfl, rfl, (by show (0 : Int) < 10 ^ Int.toNat 39 + 23; decide), ?_⟩
      refine ⟨by show 3 ≤ sizeLine; decide, fun l nl => ?_⟩
      refine q _ l (s1.trans (same_new nl)) (s1.free nl) ⟨_, _, 0, upd_same, ?_, ?_, Int.emod_nonneg _ (by decide), Int.lt_of_lt_of_le (Int.emod_lt_of_pos _ (by decide)) (by decide), Int.le_refl 0, Int.le_refl 0⟩
      · show 0 ≤ (if cell - 10 ^ Int.toNat 18 > 0 then cell - 10 ^ Int.toNat 18 else 0)
        split <;> omega
      · show (if cell - 10 ^ Int.toNat 18 > 0 then cell - 10 ^ Int.toNat 18 else 0).natAbs.log2 < 2000000
        split
        · rename_i e
          have : (cell - 10 ^ Int.toNat 18).natAbs.log2 ≤ cell.natAbs.log2 := log2_le_of (by
            have : (0 : Int) ≤ 10 ^ Int.toNat 18 := by decide
            omega)
          omega
        · show Nat.log2 0 < _
          decide
end

section
variable {P : Program} {w : World} {K : PySem.W.Frag} {mg : Str → Option Value} {base : Heap} {cMatchError cBadShape cBadCount cBadBalance cStem cBuilder : Addr}
def spDraw : Sp := fun vs H Q _ => ∃ p n many, vs = [.ref p, .int many] ∧ FeedAt H p n ∧ n ≤ 1000000000 ∧ 0 < many ∧ many < 10 ^ 100 ∧
  ∀ H' g, But p H H' → FeedAt H' p (n + 1) → 0 ≤ g → g < many → Q (.int g) H'
theorem ok__law_draw (T : Top K mg cMatchError cBadShape cBadCount cBadBalance cStem cBuilder) : Cl P w K mg base 1 "_law_draw" ["feed", "many"] spDraw := by
  refine T.d__law_draw.ok sc__law_draw (fun vs H Q E h => ?_) (fun f cdv A outer s H vs Q E hr h => ?_)
  · obtain ⟨p, n, m, rfl, _⟩ := h
    rfl
  · refine ⟨_, (pss_cons (ps_if (pt_cmpR op_gt (pe_ix ix_list (pv 0) pe_int (fun _ _ => rfl)) pe_int (nomark _)) (pss_cons (ps_set (i := 2) sc__law_draw.nd rfl (.inl rfl) (pe_op op_fdivW (pe_ix ix_list (pv 0) pe_int (fun _ _ => rfl)) (pv 1)))
      (pss_cons (ps_set (i := 3) sc__law_draw.nd rfl (.inl rfl) (pe_op op_sub (pe_ix ix_list (pv 0) pe_int (fun _ _ => rfl)) (pe_op op_mulX (pv 2) (pv 1))))
      (pss_cons (ps_asg (pv 2) (pg_sub (pv 0) pe_int set_list))
      (pss_one (ps_ret (pv 3)))))) pss_nil)
      (pss_cons (ps_asg (pe_op op_add (pe_ix ix_list (pv 0) pe_int (fun _ _ => rfl)) pe_int) (pg_sub (pv 0) pe_int set_list))
      (pss_cons (ps_set (i := 4) sc__law_draw.nd rfl (.inl rfl) (pe_op op_add (pe_ix ix_list (pv 0) pe_int (fun _ _ => rfl)) (pe_op op_mul pe_int (pe_ix ix_list (pv 0) pe_int (fun _ _ => rfl)))))
      (pss_cons (ps_set (i := 4) sc__law_draw.nd rfl (.inl rfl) (pe_op op_mod (pe_callTy call_int1 (by rfl) T.n_int (by decide +kernel) (pa_cons (pe_op op_add (pe_op op_mulX (pe_op op_mulX (pv 4) (pv 4)) (pv 4)) (pe_op op_mul pe_int (pe_ix ix_list (pv 0) pe_int (fun _ _ => rfl)))) pa_nil)) (pe_op op_add (pe_op op_pow pe_int pe_int) pe_int)))
      (pss_cons (ps_set (i := 4) sc__law_draw.nd rfl (.inl rfl) (pe_op op_mod (pe_callTy call_int1 (by rfl) T.n_int (by decide +kernel) (pa_cons (pe_op op_add (pe_op op_mulX (pv 4) (pv 4)) pe_int) pa_nil)) (pe_op op_add (pe_op op_pow pe_int pe_int) pe_int)))
      (pss_one (ps_ret (pe_op op_mod (pe_callTy call_int1 (by rfl) T.n_int (by decide +kernel) (pa_cons (pe_op op_fdivW (pv 4) (pe_op op_pow pe_int pe_int)) pa_nil)) (pv 1))))))))), ?_⟩
    obtain ⟨p, n, many, rfl, F, hn, m0, m1, q⟩ := h
    obtain ⟨x, y, c, h1, x0, xb, y0, y1, c0, c1⟩ := F.ex
    have p400 : ∀ a b : Nat, a < 2 ^ 200 → b < 2 ^ 200 → a * b < 2 ^ (200 + 200) := fun a b h1 h2 => by rw [Nat.pow_add]; exact Nat.mul_lt_mul'' h1 h2
    have mb : many.natAbs.log2 < 400 := log2_lt_of (Nat.lt_of_lt_of_le (by omega : many.natAbs < 10 ^ 100) (by decide)) (by decide)
    refine ⟨_, rfl, p, _, _, _, rfl, rfl, sqL_of h1, atI_nat (j := 0) rfl, _, _, rfl, rfl, _, rfl, ?_⟩
    have ax : ∀ {v : V} {i : Nat}, [V.int x, .int y, .int c][i]? = some v → atI [V.int x, .int y, .int c] (i : Int) = some v := fun h => atI_nat h
    have dm : ∀ z : Int, 0 ≤ z % many ∧ z % many < many := fun z => ⟨Int.emod_nonneg _ (by omega), Int.emod_lt_of_pos _ m0⟩
    refine ite2 (fun e => ?_) (fun e => ?_)
    · have r0 : 0 ≤ x / many := Int.ediv_nonneg x0 (by omega)
      have r1 : x / many ≤ x := Int.ediv_le_self _ x0
      have rb : (x / many).natAbs.log2 < 2000000 := Nat.lt_of_le_of_lt (log2_le_of (by omega)) xb
      have dd : x - x / many * many = x % many := by
        rw [Int.emod_def, Int.mul_comm]
      refine ⟨_, rfl, p, _, _, _, rfl, rfl, sqL_of h1, ax (i := 0) rfl, _, rfl, _, _, rfl, rfl, ⟨m0, by omega⟩, ?_⟩
      refine ⟨_, rfl, p, _, _, _, rfl, rfl, sqL_of h1, ax (i := 0) rfl, _, rfl, _, rfl, _, _, rfl, rfl, by unfold CMulX; omega, _, _, rfl, rfl, ?_⟩
      refine ⟨_, rfl, _, rfl, p, _, _, 0, rfl, rfl, h1, rfl, ?_⟩
      refine ⟨_, rfl, ?_⟩
      show Q (V.int (x - x / many * many)) _
      rw [dd]
      exact q _ _ but_upd ⟨_, _, _, upd_same, r0, rb, y0, y1, c0, by omega⟩ (dm _).1 (dm _).2
    · refine ⟨_, rfl, p, _, _, _, rfl, rfl, sqL_of h1, ax (i := 2) rfl, _, _, rfl, rfl, ?_⟩
      refine ⟨_, rfl, p, _, _, 2, rfl, rfl, h1, rfl, ?_⟩
      have h2 : upd H p (.lst [.int x, .int y, .int (c + 1)]) p = some (.lst [.int x, .int y, .int (c + 1)]) := upd_same
      have ax2 : ∀ {v : V} {i : Nat}, [V.int x, .int y, .int (c + 1)][i]? = some v → atI [V.int x, .int y, .int (c + 1)] (i : Int) = some v := fun h => atI_nat h
      have s0 : (y + 6700417 * (c + 1)).natAbs < 2 ^ 200 := by
        have : (10 : Int) ^ 40 + 6700417 * 1000000001 < 2 ^ 200 := by decide
        omega
      have sb := log2_lt_of s0 (by decide)
      refine ⟨_, rfl, p, _, _, _, rfl, rfl, sqL_of h2, ax2 (i := 1) rfl, _, rfl, p, _, _, _, rfl, rfl, sqL_of h2, ax2 (i := 2) rfl, _, _, rfl, rfl, .inl ⟨by decide, by decide⟩, _, _, rfl, rfl, ?_⟩
      obtain ⟨z, hz⟩ : ∃ z, z = y + 6700417 * (c + 1) := ⟨_, rfl⟩
      rw [← hz] at s0 sb
      have sb2 : (z * z).natAbs.log2 < 200 + 200 := log2_lt_of (by rw [Int.natAbs_mul]; exact p400 _ _ s0 s0) (by decide)
      have m1' : CMulX z z := by unfold CMulX; omega
      have m2' : CMulX (z * z) z := by unfold CMulX; omega
      refine ⟨_, rfl, _, rfl, _, _, rfl, rfl, by rw [hz] at m1'; exact m1', _, rfl, _, _, rfl, rfl, by rw [hz] at m2'; exact m2', _, rfl, p, _, _, _, rfl, rfl, sqL_of h2, ax2 (i := 2) rfl, _, _, rfl, rfl, .inl ⟨by decide, by decide⟩, _, _, rfl, rfl, .inl ⟨_, rfl, ?_⟩⟩
      refine ⟨_, _, rfl, rfl, ⟨by decide, by decide, by decide⟩, _, _, rfl, rfl, _, _, rfl, rfl, (by show (0 : Int) < 10 ^ Int.toNat 43 + 57; decide), ?_⟩
      obtain ⟨u, hu⟩ : ∃ u, u = (z * z * z + 15485863 * (c + 1)) % (10 ^ 43 + 57) := ⟨_, rfl⟩
      have u0 : u.natAbs < 2 ^ 150 := by
        have h1 : 0 ≤ u := by rw [hu]; exact Int.emod_nonneg _ (by decide)
        have h2 : u < 10 ^ 43 + 57 := by rw [hu]; exact Int.emod_lt_of_pos _ (by decide)
        have : (10 : Int) ^ 43 + 57 < 2 ^ 150 := by decide
        omega
      have ub := log2_lt_of u0 (by decide)
      have m3 : CMulX u u := by unfold CMulX; omega
      rw [hu, hz] at m3
      refine ⟨_, rfl, _, rfl, _, _, rfl, rfl, m3, _, _, rfl, rfl, .inl ⟨_, rfl, ?_⟩⟩
      refine ⟨_, _, rfl, rfl, ⟨by decide, by decide, by decide⟩, _, _, rfl, rfl, _, _, rfl, rfl, (by show (0 : Int) < 10 ^ Int.toNat 38 + 133; decide), ?_⟩
      refine ⟨_, rfl, _, _, rfl, rfl, ⟨by decide, by decide, by decide⟩, _, _, rfl, rfl, ⟨by decide, by decide⟩, .inl ⟨_, rfl, ?_⟩⟩
      refine ⟨_, rfl, _, _, rfl, rfl, m0, ?_⟩
      exact q _ _ but_upd ⟨_, _, _, upd_same, x0, xb, y0, y1, by omega, by omega⟩ (dm _).1 (dm _).2
end

section
variable {P : Program} {w : World} {K : PySem.W.Frag} {mg : Str → Option Value} {base : Heap} {cMatchError cBadShape cBadCount cBadBalance cStem cBuilder : Addr}
def spLeast : Sp := fun vs H Q _ => ∃ h : Nat, vs = [.int h] ∧ h < 100000 ∧ ∀ H', Same H H' → Q (.int (leastW h)) H'
theorem ok__law_least (T : Top K mg cMatchError cBadShape cBadCount cBadBalance cStem cBuilder) : Cl P w K mg base 1 "_law_least" ["height"] spLeast := by
  refine T.d__law_least.ok sc__law_least (fun vs H Q E h => ?_) (fun f cdv A outer s H vs Q E hr h => ?_)
  · obtain ⟨v, rfl, _⟩ := h
    rfl
  · refine ⟨_, (pss_cons (ps_asg (pe_tup (pa_cons pe_int (pa_cons pe_int pa_nil))) (pg_tup rfl (pgs_cons (pg_name (i := 1) sc__law_least.nd rfl (.inl rfl)) (pgs_cons (pg_name (i := 2) sc__law_least.nd rfl (.inl rfl)) pgs_nil))))
      (pss_cons (ps_for (passes_of rfl) rfl (pi_range1 (by rfl) T.n_range (pa_cons (pv 0) pa_nil)) (pg_name (i := 3) sc__law_least.nd rfl (.inl rfl)) (pss_one (ps_par (i := 1) (j := 2) (by rfl) sc__law_least.nd rfl rfl (by decide) rfl rfl (pa_cons (pv 2) (pa_cons (pe_op op_add (pv 1) (pv 2)) pa_nil)) (by rfl))))
      (pss_one (ps_ret (pv 1))))), ?_⟩
    obtain ⟨h, rfl, hb, q⟩ := h
    refine ⟨by show 2 ≤ sizeLine; decide, fun p np => ⟨p, _, rfl, sqT_of upd_same, rfl, _, _, rfl, _, _, rfl, rfl, ?_⟩⟩
    refine ⟨_, rfl, (h : Int), rfl, by omega, by omega, for_range (lo := 0) (n := (h : Int).toNat) (fun i σ H' => Same H H' ∧ ∃ x, σ = [some (.int h), some (.int (leastW i)), some (.int (leastW (i + 1))), x]) ⟨same_new np, _, rfl⟩ ?_ ?_⟩
    · rintro i σ H' hi ⟨sm, x, rfl⟩
      refine ⟨_, rfl, _, rfl, _, rfl, _, _, rfl, rfl, _, _, rfl, sm, some (.int (0 + (i : Int))), ?_⟩
      have e : ((leastW i : Int) + leastW (i + 1)) = ((leastW (i + 1 + 1) : Nat) : Int) := by
        show _ = ((leastW (i + 1) + leastW i : Nat) : Int)
        omega
      exact congrArg (fun z => [some (V.int h), some (V.int (leastW (i + 1))), some (V.int z), some (.int (0 + (i : Int)))]) e
    · rintro σ H' ⟨sm, x, rfl⟩
      exact ⟨_, rfl, q _ sm⟩
end

section
variable {P : Program} {w : World} {K : PySem.W.Frag} {mg : Str → Option Value} {base : Heap} {cMatchError cBadShape cBadCount cBadBalance cStem cBuilder : Addr}
def spLTallest : Sp := fun vs H Q _ => ∃ wd : Nat, vs = [.int wd] ∧ wd ≤ 20000 ∧ ∀ h H', IsTall wd h → Same H H' → Q (.int (h : Nat)) H'
theorem ok__law_tallest (T : Top K mg cMatchError cBadShape cBadCount cBadBalance cStem cBuilder) : Cl P w K mg base 2 "_law_tallest" ["width"] spLTallest := by
  have c__law_least := ok__law_least (P := P) (w := w) (base := base) T
  refine T.d__law_tallest.ok sc__law_tallest (fun vs H Q E h => ?_) (fun f cdv A outer s H vs Q E hr h => ?_)
  · obtain ⟨v, rfl, _⟩ := h
    rfl
  · refine ⟨_, (pss_cons (ps_set (i := 1) sc__law_tallest.nd rfl (.inl rfl) pe_int)
      (pss_cons (ps_while (passes_of rfl) (pt_cmpR op_le (pcN c__law_least hr (by decide) (pa_cons (pe_op op_add (pv 1) pe_int) pa_nil)) (pv 0) (nomark _)) (pss_one (ps_set (i := 1) sc__law_tallest.nd rfl (.inl rfl) (pe_op op_add (pv 1) pe_int))))
      (pss_one (ps_ret (pv 1))))), ?_⟩
    obtain ⟨wd, rfl, hb, q⟩ := h
    refine ⟨fun m σ H' => Same H H' ∧ ∃ h : Nat, σ = [some (.int wd), some (.int h)] ∧ (h = 0 ∨ leastW h ≤ wd) ∧ m + h = wd, ⟨wd, Same.refl _, 0, rfl, .inl rfl, rfl⟩, ?_⟩
    rintro m σ H' ⟨sm, h, rfl, h1, h2⟩
    refine ⟨_, rfl, _, _, rfl, rfl, h + 1, by rfl, by omega, fun H2 s2 => ?_⟩
    refine ⟨_, rfl, _, _, rfl, rfl, _, rfl, ite2 (fun e => ?_) (fun e => ?_)⟩
    · have e1 : (leastW (h + 1) : Int) ≤ wd := of_decide_eq_true e
      have := leastW_lt (h + 1)
      refine ⟨_, fun _ _ z => z, ?_⟩
      exact ⟨_, rfl, _, _, rfl, rfl, m - 1, by omega, sm.trans s2, h + 1, rfl, .inr (by omega), by omega⟩
    · have e1 : ¬ (leastW (h + 1) : Int) ≤ wd := fun z => e (decide_eq_true z)
      exact ⟨_, rfl, q h _ ⟨by omega, h1⟩ (sm.trans s2)⟩
end

section
variable {P : Program} {w : World} {K : PySem.W.Frag} {mg : Str → Option Value} {base : Heap} {cMatchError cBadShape cBadCount cBadBalance cStem cBuilder : Addr}
/-- one of the things -/
def spOneX (K : PySem.W.Frag) : Sp := fun vs H Q _ => ∃ p n th, vs = [.ref p, th] ∧ FeedAt H p n ∧ n ≤ 1000000000 ∧
  ((∃ a xs, th = .ref a ∧ SqL K H a xs ∧ a ≠ p ∧ 0 < xs.length ∧ xs.length < 100000 ∧ ∀ H' x (g : Nat), But p H H' → FeedAt H' p (n + 1) → xs[g]? = some x → Q x H') ∨
   (∃ a xs, th = .ref a ∧ SqT K H a xs ∧ 0 < xs.length ∧ xs.length < 100000 ∧ ∀ H' x (g : Nat), But p H H' → FeedAt H' p (n + 1) → xs[g]? = some x → Q x H') ∨
   (∃ z : Str, th = .str z ∧ 0 < z.length ∧ z.length < 100000 ∧ ∀ H' c (g : Nat), But p H H' → FeedAt H' p (n + 1) → z.cps.toList[g]? = some c → Q (.str ⟨#[c]⟩) H'))
def spOne (K : PySem.W.Frag) : Sp := fun vs H Q _ => ∃ p n a xs, vs = [.ref p, .ref a] ∧ FeedAt H p n ∧ n ≤ 1000000000 ∧ SqL K H a xs ∧ a ≠ p ∧ 0 < xs.length ∧ xs.length < 100000 ∧
  ∀ H' x (g : Nat), But p H H' → FeedAt H' p (n + 1) → xs[g]? = some x → Q x H'
def spOneT (K : PySem.W.Frag) : Sp := fun vs H Q _ => ∃ p n a xs, vs = [.ref p, .ref a] ∧ FeedAt H p n ∧ n ≤ 1000000000 ∧ SqT K H a xs ∧ 0 < xs.length ∧ xs.length < 100000 ∧
  ∀ H' x (g : Nat), But p H H' → FeedAt H' p (n + 1) → xs[g]? = some x → Q x H'
def spOneS : Sp := fun vs H Q _ => ∃ p n, ∃ z : Str, vs = [.ref p, .str z] ∧ FeedAt H p n ∧ n ≤ 1000000000 ∧ 0 < z.length ∧ z.length < 100000 ∧
  ∀ H' c (g : Nat), But p H H' → FeedAt H' p (n + 1) → z.cps.toList[g]? = some c → Q (.str ⟨#[c]⟩) H'
theorem ok__law_oneX (T : Top K mg cMatchError cBadShape cBadCount cBadBalance cStem cBuilder) : Cl P w K mg base 2 "_law_one" ["feed", "things"] (spOneX K) := by
  have c__law_draw := ok__law_draw (P := P) (w := w) (base := base) T
  refine T.d__law_one.ok sc__law_one (fun vs H Q E h => ?_) (fun f cdv A outer s H vs Q E hr h => ?_)
  · obtain ⟨p, n, th, rfl, _⟩ := h
    rfl
  · refine ⟨_, (pss_one (ps_ret (pe_ix ix_seq (pv 1) (pcN c__law_draw hr (by decide) (pa_cons (pv 0) (pa_cons (pe_callB call_len (by rfl) T.n_len (by decide +kernel) (pa_cons (pv 1) pa_nil)) pa_nil))) (fun _ _ => rfl)))), ?_⟩
    obtain ⟨p, n, th, rfl, F, hn, h⟩ := h
    rcases h with ⟨a, xs, rfl, hS, ne, l0, l1, q⟩ | ⟨a, xs, rfl, hS, l0, l1, q⟩ | ⟨z, rfl, l0, l1, q⟩
    · refine ⟨_, rfl, _, rfl, _, rfl, _, xs.length, rfl, .inl ⟨_, hS, rfl⟩, p, n, xs.length, rfl, F, hn, by omega, by omega, fun H' g b F' g0 g1 => ?_⟩
      obtain ⟨j, rfl⟩ : ∃ j : Nat, g = j := ⟨g.toNat, by omega⟩
      have hj : j < xs.length := by omega
      exact .inl ⟨a, xs, _, _, rfl, rfl, b.seqL ne hS, atI_nat (j := j) (List.getElem?_eq_getElem hj), q _ _ j b F' (List.getElem?_eq_getElem hj)⟩
    · refine ⟨_, rfl, _, rfl, _, rfl, _, xs.length, rfl, .inr ⟨_, hS, rfl⟩, p, n, xs.length, rfl, F, hn, by omega, by omega, fun H' g b F' g0 g1 => ?_⟩
      obtain ⟨j, rfl⟩ : ∃ j : Nat, g = j := ⟨g.toNat, by omega⟩
      have hj : j < xs.length := by omega
      obtain ⟨ys, hy⟩ := F.lst
      exact .inr (.inl ⟨a, xs, _, _, rfl, rfl, b.seqT hy hS, atI_nat (j := j) (List.getElem?_eq_getElem hj), q _ _ j b F' (List.getElem?_eq_getElem hj)⟩)
    · refine ⟨_, rfl, _, rfl, _, rfl, _, z.length, rfl, ⟨Nat.le_trans (Nat.le_of_lt l1) (by decide), rfl⟩, p, n, z.length, rfl, F, hn, by omega, by omega, fun H' g b F' g0 g1 => ?_⟩
      obtain ⟨j, rfl⟩ : ∃ j : Nat, g = j := ⟨g.toNat, by omega⟩
      have hj : j < z.cps.toList.length := by
        have : z.length = z.cps.toList.length := by simp [Str.length]
        omega
      exact .inr (.inr ⟨z, _, _, rfl, rfl, Nat.le_trans (Nat.le_of_lt l1) (by decide), atI_nat (j := j) (List.getElem?_eq_getElem hj), q _ _ j b F' (List.getElem?_eq_getElem hj)⟩)
theorem ok__law_one (T : Top K mg cMatchError cBadShape cBadCount cBadBalance cStem cBuilder) : Cl P w K mg base 2 "_law_one" ["feed", "things"] (spOne K) := (ok__law_oneX T).imp fun vs H Q E h => by
  obtain ⟨p, n, a, xs, h1, h2, h3, h4⟩ := h
  exact ⟨p, n, _, h1, h2, h3, .inl ⟨a, xs, rfl, h4⟩⟩
theorem ok__law_oneT (T : Top K mg cMatchError cBadShape cBadCount cBadBalance cStem cBuilder) : Cl P w K mg base 2 "_law_one" ["feed", "things"] (spOneT K) := (ok__law_oneX T).imp fun vs H Q E h => by
  obtain ⟨p, n, a, xs, h1, h2, h3, h4⟩ := h
  exact ⟨p, n, _, h1, h2, h3, .inr (.inl ⟨a, xs, rfl, h4⟩)⟩
theorem ok__law_oneS (T : Top K mg cMatchError cBadShape cBadCount cBadBalance cStem cBuilder) : Cl P w K mg base 2 "_law_one" ["feed", "things"] spOneS := (ok__law_oneX T).imp fun vs H Q E h => by
  obtain ⟨p, n, z, h1, h2, h3, h4⟩ := h
  exact ⟨p, n, _, h1, h2, h3, .inr (.inr ⟨z, rfl, h4⟩)⟩
end

section
variable {P : Program} {w : World} {K : PySem.W.Frag} {mg : Str → Option Value} {base : Heap} {cMatchError cBadShape cBadCount cBadBalance cStem cBuilder : Addr}
theorem leastW_two : ∀ h, leastW h ≤ 2 ^ h
  | 0 => by decide
  | 1 => by decide
  | h + 2 => by
    have h1 := leastW_two h
    have h2 := leastW_two (h + 1)
    have e : leastW (h + 2) = leastW (h + 1) + leastW h := rfl
    rw [e, Nat.pow_succ]
    rw [Nat.pow_succ] at h2 ⊢
    omega
theorem leastW_three : ∀ h, 2 * leastW (h + 1) ≤ 3 * 2 ^ h + 1
  | 0 => by decide
  | 1 => by decide
  | h + 2 => by
    have h1 := leastW_three h
    have h2 := leastW_three (h + 1)
    have e : leastW (h + 2 + 1) = leastW (h + 1 + 1) + leastW (h + 1) := rfl
    have p : 1 ≤ 2 ^ h := Nat.one_le_two_pow
    have e2 : 2 ^ (h + 2) = 4 * 2 ^ h := by rw [Nat.pow_add, Nat.mul_comm]
    have e1 : 2 ^ (h + 1) = 2 * 2 ^ h := by rw [Nat.pow_succ, Nat.mul_comm]
    rw [e, e2]
    rw [e1] at h2
    omega
/-- how many draws a balanced shape takes -/
def balCost : Nat → Nat
  | 0 => 0
  | h + 1 => 2 + 2 * balCost h
theorem balCost_mono {a b : Nat} (h : a ≤ b) : balCost a ≤ balCost b := by
  induction h with
  | refl => exact Nat.le_refl _
  | step _ ih => exact Nat.le_trans ih (by show _ ≤ 2 + 2 * balCost _; omega)
/-- heights of two sides of a height h -/
def Ways (h : Nat) (l r : Nat) : Prop := (l + 1 = h ∧ r + 1 = h) ∨ (l + 1 = h ∧ r + 2 = h) ∨ (l + 2 = h ∧ r + 1 = h)
/-- a width that fits them -/
def Fits (wd l r : Nat) : Prop := leastW l + leastW r ≤ wd ∧ wd ≤ 2 ^ l + 2 ^ r
theorem fits_one {h wd : Nat} (h0 : 0 < h) (h1 : leastW h ≤ wd) (h2 : wd ≤ 2 ^ h) : Fits wd (h - 1) (h - 1) ∨ (2 ≤ h ∧ Fits wd (h - 1) (h - 2)) := by
  obtain ⟨g, rfl⟩ : ∃ g, h = g + 1 := ⟨h - 1, by omega⟩
  rw [Nat.pow_succ] at h2
  cases g with
  | zero =>
    left
    have : leastW (0 + 1) = 2 := rfl
    have : leastW (0 + 1 - 1) = 1 := rfl
    exact ⟨by omega, by show wd ≤ 1 + 1; omega⟩
  | succ g =>
    show Fits wd (g + 1) (g + 1) ∨ (2 ≤ g + 1 + 1 ∧ Fits wd (g + 1) g)
    by_cases c : wd ≤ 2 ^ (g + 1) + 2 ^ g
    · exact .inr ⟨by omega, h1, c⟩
    · have := leastW_three g
      have e1 : 2 ^ (g + 1) = 2 * 2 ^ g := by rw [Nat.pow_succ, Nat.mul_comm]
      refine .inl ⟨by omega, by omega⟩
/-- what stands in the list of ways -/
def WayOk (H : Hp) (h wd : Nat) (x : V) : Prop := ∃ a l r, ∃ lo hi : Int, x = .ref a ∧ H a = some (.tup [.int (l : Nat), .int (r : Nat), .int lo, .int hi]) ∧ Ways h l r ∧ (leastW l : Int) ≤ lo ∧ (wd : Int) - 2 ^ r ≤ lo ∧ lo ≤ hi ∧ hi ≤ 2 ^ l ∧ hi ≤ wd - leastW r
theorem WayOk.same {H H' : Hp} {h wd : Nat} {x : V} (w : WayOk H h wd x) (s : ∀ a xs, H a = some (.tup xs) → H' a = some (.tup xs)) : WayOk H' h wd x := by
  obtain ⟨a, l, r, lo, hi, e1, e2, e3⟩ := w
  exact ⟨a, l, r, lo, hi, e1, s _ _ e2, e3⟩
/-- the three pairs of heights that are tried -/
def wayI (h : Nat) (i : Nat) (l r : Int) : Prop := (i = 0 ∧ l = h - 1 ∧ r = h - 1) ∨ (i = 1 ∧ l = h - 1 ∧ r = h - 2) ∨ (i = 2 ∧ l = h - 2 ∧ r = h - 1)
theorem pow_cast (r : Nat) : (1 * 2 ^ (Int.toNat (r : Int)) : Int) = ((2 ^ r : Nat) : Int) := by
  rw [Int.toNat_natCast, Int.one_mul, Int.natCast_pow]
  rfl
structure BalInv (H5 : Hp) (p wy : Addr) (wd h : Nat) (i : Nat) (σ : L2.St) (H' : Hp) : Prop where
  ex : ∃ x4 x5 x6 x7 ws, σ = [some (.ref p), some (.int wd), some (.int h), some (.ref wy), x4, x5, x6, x7, none] ∧ But wy H5 H' ∧ H' wy = some (.lst ws) ∧ (∀ x ∈ ws, WayOk H' h wd x) ∧ ws.length ≤ i ∧
    (∀ j l r, j < i → wayI h j (l : Nat) (r : Nat) → Fits wd l r → ws ≠ [])
def spLBal (K : PySem.W.Frag) (n : Nat) : Sp := fun vs H Q _ => ∃ p, ∃ m wd h : Nat, vs = [.ref p, .int wd, .int h] ∧ FeedAt H p m ∧ m ≤ 500000 ∧ h < n ∧ m + balCost h ≤ 500000 ∧ h ≤ 20 ∧ leastW h ≤ wd ∧ wd ≤ 2 ^ h ∧
  ∀ H' v t, But p H H' → FeedAt H' p (m + balCost h) → RepTh K H' v t → t.wid = wd → t.hgt = h → t.isBal = true → Q v H'
theorem ok__law_balanced (T : Top K mg cMatchError cBadShape cBadCount cBadBalance cStem cBuilder) : ∀ n, Cl P w K mg base (n + 3) "_law_balanced" ["feed", "width", "height"] (spLBal K n)
  | 0 => by
    exact T.d__law_balanced.never fun vs H Q E h => by
      obtain ⟨_, _, _, _, _, _, _, z, _⟩ := h
      cases z
  | n + 1 => by
    have ih := ok__law_balanced T n
    have c__law_draw := ok__law_draw (P := P) (w := w) (base := base) T
    have c__law_one := ok__law_one (P := P) (w := w) (base := base) T
    have c__law_least := ok__law_least (P := P) (w := w) (base := base) T
    refine T.d__law_balanced.ok sc__law_balanced (fun vs H Q E h => ?_) (fun f cdv A outer s H vs Q E hr h => ?_)
    · obtain ⟨_, _, _, _, rfl, _⟩ := h
      rfl
    · refine ⟨_, (pss_cons (ps_if (pt_cmpR op_eq (pv 2) pe_int (nomark _)) (pss_one (ps_ret pe_non)) pss_nil)
      (pss_cons (ps_set (i := 3) sc__law_balanced.nd rfl (.inl rfl) (pe_lst pa_nil))
      (pss_cons (ps_for (passes_of rfl) rfl (pi_list (pe_lst (pa_cons (pe_tup (pa_cons (pe_op op_sub (pv 2) pe_int) (pa_cons (pe_op op_sub (pv 2) pe_int) pa_nil))) (pa_cons (pe_tup (pa_cons (pe_op op_sub (pv 2) pe_int) (pa_cons (pe_op op_sub (pv 2) pe_int) pa_nil))) (pa_cons (pe_tup (pa_cons (pe_op op_sub (pv 2) pe_int) (pa_cons (pe_op op_sub (pv 2) pe_int) pa_nil))) pa_nil))))) (pg_tup rfl (pgs_cons (pg_name (i := 4) sc__law_balanced.nd rfl (.inl rfl)) (pgs_cons (pg_name (i := 5) sc__law_balanced.nd rfl (.inl rfl)) pgs_nil))) (pss_one (ps_if (pt_cmpR op_ge (pe_callB (call_min2 rfl) (by rfl) T.n_min (by decide +kernel) (pa_cons (pv 4) (pa_cons (pv 5) pa_nil))) pe_int (nomark _)) (pss_cons (ps_set (i := 6) sc__law_balanced.nd rfl (.inl rfl) (pe_callB (call_max2 rfl) (by rfl) T.n_max (by decide +kernel) (pa_cons (pcN c__law_least hr (by omega) (pa_cons (pv 4) pa_nil)) (pa_cons (pe_op op_sub (pv 1) (pe_op op_shl pe_int (pv 5))) pa_nil))))
      (pss_cons (ps_set (i := 7) sc__law_balanced.nd rfl (.inl rfl) (pe_callB (call_min2 rfl) (by rfl) T.n_min (by decide +kernel) (pa_cons (pe_op op_shl pe_int (pv 4)) (pa_cons (pe_op op_sub (pv 1) (pcN c__law_least hr (by omega) (pa_cons (pv 5) pa_nil))) pa_nil))))
      (pss_one (ps_if (pt_cmpR op_le (pv 6) (pv 7) (nomark _)) (pss_one (ps_expr (pe_bm PySem.F.plainAttrs_list PySem.F.slot_list_append PySem.F.type_list_append mt_append (pv 3) (pa_cons (pe_tup (pa_cons (pv 4) (pa_cons (pv 5) (pa_cons (pv 6) (pa_cons (pv 7) pa_nil))))) pa_nil)))) pss_nil)))) pss_nil)))
      (pss_cons (ps_asg (pcN c__law_one hr (by omega) (pa_cons (pv 0) (pa_cons (pv 3) pa_nil))) (pg_tup rfl (pgs_cons (pg_name (i := 4) sc__law_balanced.nd rfl (.inl rfl)) (pgs_cons (pg_name (i := 5) sc__law_balanced.nd rfl (.inl rfl)) (pgs_cons (pg_name (i := 6) sc__law_balanced.nd rfl (.inl rfl)) (pgs_cons (pg_name (i := 7) sc__law_balanced.nd rfl (.inl rfl)) pgs_nil))))))
      (pss_cons (ps_set (i := 8) sc__law_balanced.nd rfl (.inl rfl) (pe_op op_add (pv 6) (pcN c__law_draw hr (by omega) (pa_cons (pv 0) (pa_cons (pe_op op_add (pe_op op_sub (pv 7) (pv 6)) pe_int) pa_nil)))))
      (pss_one (ps_ret (pe_tup (pa_cons (pcN ih hr (Nat.le_refl _) (pa_cons (pv 0) (pa_cons (pv 8) (pa_cons (pv 4) pa_nil)))) (pa_cons (pcN ih hr (Nat.le_refl _) (pa_cons (pv 0) (pa_cons (pe_op op_sub (pv 1) (pv 8)) (pa_cons (pv 5) pa_nil)))) pa_nil)))))))))), ?_⟩
      obtain ⟨p, m, wd, h, rfl, F, hm, hn, hc, h20, h1, h2, q⟩ := h
      refine ⟨_, rfl, rfl, _, rfl, ite2 (fun e => ?_) (fun e => ?_)⟩
      · have e0 : h = 0 := by
          have := V.int.inj (of_decide_eq_true e)
          omega
        subst e0
        refine q H .non .one (But.refl _ _) F .one ?_ rfl rfl
        have : leastW 0 = 1 := rfl
        have : (2 : Nat) ^ 0 = 1 := rfl
        show 1 = wd
        omega
      · have h0 : 0 < h := Nat.pos_of_ne_zero fun z => e (decide_eq_true (by rw [z]; rfl))
        refine ⟨Nat.zero_le _, fun wy ny => ?_⟩
        refine ⟨_, rfl, _, _, rfl, rfl, _, rfl, _, _, rfl, rfl, by show 2 ≤ sizeLine; decide, fun a1 n1 => ?_⟩
        refine ⟨_, rfl, _, _, rfl, rfl, _, rfl, _, _, rfl, rfl, by show 2 ≤ sizeLine; decide, fun a2 n2 => ?_⟩
        refine ⟨_, rfl, _, _, rfl, rfl, _, rfl, _, _, rfl, rfl, by show 2 ≤ sizeLine; decide, fun a3 n3 => ?_⟩
        refine ⟨by show 3 ≤ sizeLine; decide, fun a4 n4 => ?_⟩
        have S1 := same_new (o := .lst []) ny
        have S2 := same_new (o := .tup [.int ((h : Int) - 1), .int ((h : Int) - 1)]) n1
        have S3 := same_new (o := .tup [.int ((h : Int) - 1), .int ((h : Int) - 2)]) n2
        have S4 := same_new (o := .tup [.int ((h : Int) - 2), .int ((h : Int) - 1)]) n3
        have S5 := same_new (o := .lst [.ref a1, .ref a2, .ref a3]) n4
        obtain ⟨H5, e5⟩ : ∃ H5, H5 = upd (upd (upd (upd (upd H wy (.lst [])) a1 (.tup [.int ((h : Int) - 1), .int ((h : Int) - 1)])) a2 (.tup [.int ((h : Int) - 1), .int ((h : Int) - 2)])) a3 (.tup [.int ((h : Int) - 2), .int ((h : Int) - 1)])) a4 (.lst [.ref a1, .ref a2, .ref a3]) := ⟨_, rfl⟩
        have y5 : H5 wy = some (.lst []) := by rw [e5]; exact S5 _ _ (S4 _ _ (S3 _ _ (S2 _ _ upd_same)))
        have t1 : H5 a1 = some (.tup [.int ((h : Int) - 1), .int ((h : Int) - 1)]) := by rw [e5]; exact S5 _ _ (S4 _ _ (S3 _ _ upd_same))
        have t2 : H5 a2 = some (.tup [.int ((h : Int) - 1), .int ((h : Int) - 2)]) := by rw [e5]; exact S5 _ _ (S4 _ _ upd_same)
        have t3 : H5 a3 = some (.tup [.int ((h : Int) - 2), .int ((h : Int) - 1)]) := by rw [e5]; exact S5 _ _ upd_same
        have t4 : H5 a4 = some (.lst [.ref a1, .ref a2, .ref a3]) := by rw [e5]; exact upd_same
        have S05 : Same H H5 := by rw [e5]; exact S1.trans (S2.trans (S3.trans (S4.trans S5)))
        have ny4 : a4 ≠ wy := fun z => by rw [z, S4 _ _ (S3 _ _ (S2 _ _ upd_same))] at n4; cases n4
        have F5 : FeedAt H5 p m := F.same S05
        have npy : p ≠ wy := fun z => by obtain ⟨ys, hy⟩ := F.lst; rw [z, ny] at hy; cases hy
        refine ⟨a4, rfl, ⟨_, sqL_of upd_same⟩, for_list (xs := [.ref a1, .ref a2, .ref a3]) (BalInv H5 p wy wd h) ⟨none, none, none, none, [], rfl, (by rw [e5]; exact But.refl _ _), (by rw [← e5]; exact y5), (fun x z => by cases z), Nat.le_refl _, (fun j l r z => by cases z)⟩ ?_ ?_ ?_⟩
        · rintro i σ H' _ ⟨_, _, _, _, ws, _, b, _⟩
          exact sqL_of (b a4 _ ny4 t4)
        · -- a turn
          rintro i x σ H' hx ⟨x4, x5, x6, x7, ws, rfl, b, hws, hok, hlen, hne⟩
          obtain ⟨a, li, ri, rfl, ha, hw⟩ : ∃ a li ri, x = .ref a ∧ H5 a = some (.tup [.int li, .int ri]) ∧ wayI h i li ri := by
            match i, hx with
            | 0, hx => cases hx; exact ⟨a1, _, _, rfl, t1, .inl ⟨rfl, rfl, rfl⟩⟩
            | 1, hx => cases hx; exact ⟨a2, _, _, rfl, t2, .inr (.inl ⟨rfl, rfl, rfl⟩)⟩
            | 2, hx => cases hx; exact ⟨a3, _, _, rfl, t3, .inr (.inr ⟨rfl, rfl, rfl⟩)⟩
            | n + 3, hx => cases hx
          have hi : i < 3 := by
            rcases hw with ⟨e, _⟩ | ⟨e, _⟩ | ⟨e, _⟩ <;> omega
          have nay : a ≠ wy := ne_of ha y5 (fun z => by cases z)
          have ha' := b a _ nay ha
          refine ⟨a, _, rfl, sqT_of ha', rfl, _, _, rfl, _, _, rfl, rfl, ?_⟩
          refine ⟨_, rfl, _, rfl, _, _, rfl, _, _, rfl, rfl, _, rfl, ?_⟩
          refine ite2 (fun e => ?_) (fun e => ?_)
          · have e1 : 0 ≤ (if ri < li then ri else li) := of_decide_eq_true e
            obtain ⟨l, rfl⟩ : ∃ l : Nat, li = l := ⟨li.toNat, by split at e1 <;> omega⟩
            obtain ⟨r, rfl⟩ : ∃ r : Nat, ri = r := ⟨ri.toNat, by split at e1 <;> omega⟩
            have hW : Ways h l r := by
              rcases hw with ⟨_, _, _⟩ | ⟨_, _, _⟩ | ⟨_, _, _⟩
              · exact .inl (by omega)
              · exact .inr (.inl (by omega))
              · exact .inr (.inr (by omega))
            have hl : l ≤ 20 := by rcases hW with ⟨_, _⟩ | ⟨_, _⟩ | ⟨_, _⟩ <;> omega
            have hrr : r ≤ 20 := by rcases hW with ⟨_, _⟩ | ⟨_, _⟩ | ⟨_, _⟩ <;> omega
            refine ⟨_, rfl, l, rfl, by omega, fun H6 s6 => ?_⟩
            refine ⟨_, rfl, _, rfl, _, _, rfl, rfl, ⟨by omega, by omega, by decide⟩, _, _, rfl, rfl, _, _, rfl, ?_⟩
            refine ⟨_, rfl, _, _, rfl, rfl, ⟨by omega, by omega, by decide⟩, _, rfl, _, rfl, r, rfl, by omega, fun H7 s7 => ?_⟩
            refine ⟨_, _, rfl, rfl, _, _, rfl, ?_⟩
            refine ⟨_, rfl, _, rfl, _, _, rfl, rfl, _, rfl, ?_⟩
            have s67 := s6.trans s7
            have b7 : But wy H5 H7 := b.trans (But.of s67)
            have w7 := s67 _ _ hws
            have ok7 : ∀ x ∈ ws, WayOk H7 h wd x := fun x z => (hok x z).same fun a xs e => s67 _ _ e
            have pl := leastW_two l
            have pr := leastW_two r
            obtain ⟨lo, elo⟩ : ∃ lo : Int, lo = (if (wd : Int) - 1 * 2 ^ (Int.toNat (r : Int)) > leastW l then (wd : Int) - 1 * 2 ^ (Int.toNat (r : Int)) else leastW l) := ⟨_, rfl⟩
            obtain ⟨hi', ehi⟩ : ∃ hi' : Int, hi' = (if (wd : Int) - leastW r < 1 * 2 ^ (Int.toNat (l : Int)) then (wd : Int) - leastW r else 1 * 2 ^ (Int.toNat (l : Int))) := ⟨_, rfl⟩
            have elo2 := elo
            have ehi2 := ehi
            rw [pow_cast] at elo2 ehi2
            refine ite2 (fun e => ?_) (fun e => ?_)
            · have e2 : lo ≤ hi' := by rw [elo, ehi]; exact of_decide_eq_true e
              refine ⟨_, rfl, .inl ⟨rfl, _, sqL_of w7⟩, _, rfl, _, rfl, _, rfl, _, rfl, by show 4 ≤ sizeLine; decide, fun a5 n5 => ?_⟩
              have s5 := same_new (o := .tup [.int (l : Int), .int (r : Int), .int lo, .int hi']) n5
              have n5y : a5 ≠ wy := fun z => by rw [z, w7] at n5; cases n5
              refine ⟨wy, ws, _, rfl, rfl, (by rw [upd_ne n5y.symm]; exact w7), Nat.lt_of_le_of_lt (show ws.length ≤ 3 by omega) (by decide), ?_⟩
              refine ⟨some (.int (l : Int)), some (.int (r : Int)), some (.int lo), some (.int hi'), ws ++ [.ref a5], (by rw [elo, ehi]; rfl), (b7.trans (But.of (same_new n5))).trans but_upd, upd_same, ?_, (by rw [List.length_append]; show ws.length + 1 ≤ i + 1; omega), fun _ _ _ _ _ _ z => by simp at z⟩
              intro x hx
              rcases List.mem_append.mp hx with hx | hx
              · exact ((ok7 x hx).same fun a xs e => same_new n5 _ _ e).same fun a xs e => by rw [upd_ne]; exact e; exact ne_of e (by rw [upd_ne n5y.symm]; exact w7) (fun z => by cases z)
              · cases hx with
                | head =>
                  refine ⟨a5, l, r, lo, hi', rfl, (by rw [upd_ne n5y, elo, ehi]; exact upd_same), hW, ?_, ?_, e2, ?_, ?_⟩
                  · rw [elo2]; split <;> omega
                  · rw [elo2, show (2 : Int) ^ r = ((2 ^ r : Nat) : Int) by rw [Int.natCast_pow]; rfl]; split <;> omega
                  · rw [ehi2, show (2 : Int) ^ l = ((2 ^ l : Nat) : Int) by rw [Int.natCast_pow]; rfl]; split <;> omega
                  · rw [ehi2]; split <;> omega
                | tail _ z => cases z
            · have e2 : ¬ lo ≤ hi' := fun z => e (by rw [elo, ehi] at z; exact decide_eq_true z)
              refine ⟨some (.int (l : Int)), some (.int (r : Int)), some (.int lo), some (.int hi'), ws, (by rw [elo, ehi]; rfl), b7, w7, ok7, by omega, fun j l' r' hj wj fj => ?_⟩
              by_cases ej : j < i
              · exact hne j l' r' ej wj fj
              · have ej : j = i := by omega
                subst ej
                have el : l' = l ∧ r' = r := by
                  rcases wj with ⟨_, _, _⟩ | ⟨_, _, _⟩ | ⟨_, _, _⟩ <;> rcases hw with ⟨_, _, _⟩ | ⟨_, _, _⟩ | ⟨_, _, _⟩ <;> omega
                obtain ⟨rfl, rfl⟩ := el
                refine (e2 ?_).elim
                obtain ⟨f1, f2⟩ := fj
                rw [elo2, ehi2]
                split <;> split <;> omega
          · have e1 : ¬ 0 ≤ (if ri < li then ri else li) := fun z => e (decide_eq_true z)
            refine ⟨_, _, _, _, ws, rfl, b, hws, hok, by omega, fun j l' r' hj wj fj => ?_⟩
            by_cases ej : j < i
            · exact hne j l' r' ej wj fj
            · have ej : j = i := by omega
              subst ej
              exfalso
              rcases wj with ⟨_, _, _⟩ | ⟨_, _, _⟩ | ⟨_, _, _⟩ <;> rcases hw with ⟨_, _, _⟩ | ⟨_, _, _⟩ | ⟨_, _, _⟩ <;> (split at e1 <;> omega)
        · rintro σ H' ⟨x4, x5, x6, x7, ws, rfl, b, hws, hok, hlen, hne⟩
          have hlen : ws.length ≤ 3 := hlen
          have hne2 : ws ≠ [] := by
            rcases fits_one h0 h1 h2 with f | ⟨g, f⟩
            · exact hne 0 (h - 1) (h - 1) (show (0 : Nat) < 3 by decide) (.inl (by omega)) f
            · exact hne 1 (h - 1) (h - 2) (show (1 : Nat) < 3 by decide) (.inr (.inl (by omega))) f
          have F' : FeedAt H' p m := F5.keep fun o ho => b p o npy ho
          have p20 : (2 : Nat) ^ 20 = 1048576 := by decide
          have wl : 0 < ws.length := List.length_pos_iff.mpr hne2
          have pw : 2 ^ h ≤ 2 ^ 20 := Nat.pow_le_pow_right (by decide) h20
          refine ⟨_, rfl, _, rfl, p, m, wy, ws, rfl, F', by omega, sqL_of hws, npy.symm, wl, by omega, fun H8 x g b8 F8 hx => ?_⟩
          obtain ⟨a, l, r, lo, hi, rfl, ha, hW, g1, g2, g3, g4, g5⟩ := hok x (List.mem_of_getElem? hx)
          have nap : a ≠ p := by
            obtain ⟨ys, hy⟩ := F'.lst
            exact ne_of ha hy (fun z => by cases z)
          have hl : l < h ∧ r < h := by rcases hW with ⟨_, _⟩ | ⟨_, _⟩ | ⟨_, _⟩ <;> omega
          refine ⟨a, _, rfl, sqT_of (b8 a _ nap ha), rfl, _, _, rfl, _, _, rfl, _, _, rfl, _, _, rfl, rfl, ?_⟩
          have pl := leastW_pos l
          have pr := leastW_pos r
          have p100 : (1048578 : Int) < 10 ^ 100 := by decide
          refine ⟨_, rfl, _, rfl, _, rfl, _, rfl, _, _, rfl, rfl, _, _, rfl, rfl, p, m + 1, hi - lo + 1, rfl, F8, by omega, by omega, by omega, fun H9 g9 b9 F9 g90 g91 => ?_⟩
          refine ⟨_, _, rfl, rfl, ?_⟩
          obtain ⟨w1, ew1⟩ : ∃ w1 : Nat, lo + g9 = (w1 : Int) := ⟨(lo + g9).toNat, by omega⟩
          have cc : balCost h = 2 + 2 * balCost (h - 1) := by
            obtain ⟨k, rfl⟩ : ∃ k, h = k + 1 := ⟨h - 1, by omega⟩
            rfl
          have cl : balCost l ≤ balCost (h - 1) := balCost_mono (by omega)
          have cr : balCost r ≤ balCost (h - 1) := balCost_mono (by omega)
          have e2l : (2 : Int) ^ l = ((2 ^ l : Nat) : Int) := by rw [Int.natCast_pow]; rfl
          have e2r : (2 : Int) ^ r = ((2 ^ r : Nat) : Int) := by rw [Int.natCast_pow]; rfl
          rw [e2l] at g4
          rw [e2r] at g2
          refine ⟨_, rfl, _, rfl, _, rfl, p, m + 1 + 1, w1, l, congrArg (fun z => [V.ref p, .int z, .int (l : Nat)]) ew1, F9, by omega, by omega, by omega, by omega, by omega, by omega, fun H10 v1 s1 b10 F10 R1 q1 q2 q3 => ?_⟩
          have e4 : (wd : Int) - (lo + g9) = ((wd - w1 : Nat) : Int) := by omega
          refine ⟨_, rfl, _, rfl, _, rfl, _, _, rfl, rfl, _, rfl, p, m + 1 + 1 + balCost l, wd - w1, r, congrArg (fun z => [V.ref p, .int z, .int (r : Nat)]) e4, F10, by omega, by omega, by omega, by omega, by omega, by omega, fun H11 v2 s2 b11 F11 R2 q4 q5 q6 => ?_⟩
          refine ⟨by show 2 ≤ sizeLine; decide, fun a6 n6 => ?_⟩
          have s6 := same_new (o := .tup [v1, v2]) n6
          have k1011 : Keep H10 H11 := F10.keeps b11 F11
          refine q _ _ (s1.pair s2) ?_ ((F11.new n6).mono (by omega)) (.pair (sqT_of upd_same) ((R1.keep k1011).keep (Keep.of s6)) (R2.keep (Keep.of s6))) ?_ ?_ ?_
          · have bb : But p H H' := fun c o nc hc => b c o (fun z => by rw [z, ny] at hc; cases hc) (S05 _ _ hc)
            exact ((((bb.trans b8).trans b9).trans b10).trans b11).trans (But.of s6)
          · show s1.wid + s2.wid = wd
            omega
          · show 1 + max s1.hgt s2.hgt = h
            rw [q2, q5]
            rcases hW with ⟨_, _⟩ | ⟨_, _⟩ | ⟨_, _⟩ <;> omega
          · show (s1.isBal && s2.isBal && decide (s1.hgt ≤ s2.hgt + 1) && decide (s2.hgt ≤ s1.hgt + 1)) = true
            rw [q3, q6, q2, q5, decide_eq_true (show l ≤ r + 1 by rcases hW with ⟨_, _⟩ | ⟨_, _⟩ | ⟨_, _⟩ <;> omega), decide_eq_true (show r ≤ l + 1 by rcases hW with ⟨_, _⟩ | ⟨_, _⟩ | ⟨_, _⟩ <;> omega)]
            rfl
end

section
variable {P : Program} {w : World} {K : PySem.W.Frag} {mg : Str → Option Value} {base : Heap} {cMatchError cBadShape cBadCount cBadBalance cStem cBuilder : Addr}
theorem low_tall {wd h : Nat} (h1 : 1 ≤ wd) (t : IsTall wd h) : blen (wd - 1) ≤ h := by
  have two : ∀ h, leastW (h + 1) ≤ 2 ^ h + 1 := by
    intro h
    induction h with
    | zero => decide
    | succ h ih =>
      have := leastW_two h
      have e : leastW (h + 1 + 1) = leastW (h + 1) + leastW h := rfl
      rw [e, Nat.pow_succ]
      omega
  have := two h
  have := t.1
  have hl : wd - 1 < 2 ^ h := by omega
  unfold blen
  split
  · omega
  · rename_i c
    have := (Nat.log2_lt c).mpr hl
    omega
theorem wid_blen {wd h : Nat} (h1 : 1 ≤ wd) (hb : blen (wd - 1) ≤ h) : wd ≤ 2 ^ h := by
  have k : wd - 1 < 2 ^ blen (wd - 1) := by
    unfold blen
    split
    · omega
    · exact Nat.lt_log2_self
  have := Nat.pow_le_pow_right (show 0 < 2 by decide) hb
  omega
def spLAnyBal (K : PySem.W.Frag) : Sp := fun vs H Q _ => ∃ p m, ∃ most : Nat, vs = [.ref p, .int most] ∧ FeedAt H p m ∧ m ≤ 200000 ∧ 1 ≤ most ∧ most ≤ 1500 ∧
  ∀ H' v t, But p H H' → FeedAt H' p (m + 40000) → RepTh K H' v t → t.isBal = true → t.hgt ≤ 14 → t.wid ≤ most → Q v H'
theorem ok__law_any_balanced (T : Top K mg cMatchError cBadShape cBadCount cBadBalance cStem cBuilder) : Cl P w K mg base 20 "_law_any_balanced" ["feed", "most"] (spLAnyBal K) := by
  have c__law_draw := ok__law_draw (P := P) (w := w) (base := base) T
  have c__law_tallest := ok__law_tallest (P := P) (w := w) (base := base) T
  have c__law_balanced := ok__law_balanced (P := P) (w := w) (base := base) T 15
  refine T.d__law_any_balanced.ok sc__law_any_balanced (fun vs H Q E h => ?_) (fun f cdv A outer s H vs Q E hr h => ?_)
  · obtain ⟨_, _, _, rfl, _⟩ := h
    rfl
  · refine ⟨_, (pss_cons (ps_set (i := 2) sc__law_any_balanced.nd rfl (.inl rfl) (pe_op op_add pe_int (pcN c__law_draw hr (by decide) (pa_cons (pv 0) (pa_cons (pv 1) pa_nil)))))
      (pss_cons (ps_set (i := 3) sc__law_any_balanced.nd rfl (.inl rfl) (pe_bits (pe_op op_sub (pv 2) pe_int)))
      (pss_one (ps_ret (pcN c__law_balanced hr (by decide) (pa_cons (pv 0) (pa_cons (pv 2) (pa_cons (pe_op op_add (pv 3) (pcN c__law_draw hr (by decide) (pa_cons (pv 0) (pa_cons (pe_op op_add (pe_op op_sub (pcN c__law_tallest hr (by decide) (pa_cons (pv 2) pa_nil)) (pv 3)) pe_int) pa_nil)))) pa_nil)))))))), ?_⟩
    obtain ⟨p, m, most, rfl, F0, hm, m1, m2, q⟩ := h
    refine ⟨_, rfl, _, rfl, p, m, most, rfl, F0, by omega, by omega, by omega, fun H1 g b1 F1 g0 g1 => ?_⟩
    refine ⟨_, _, rfl, rfl, ?_⟩
    obtain ⟨wd, ew⟩ : ∃ wd : Nat, 1 + g = (wd : Int) := ⟨(1 + g).toNat, by omega⟩
    have w1 : 1 ≤ wd ∧ wd ≤ most := by omega
    dsimp only [gName]
    rw [ew]
    refine ⟨_, rfl, _, _, rfl, rfl, _, rfl, ?_⟩
    have eb : Builtin.Int.intBits ((wd : Int) - 1) = blen (wd - 1) := by
      rw [show (wd : Int) - 1 = ((wd - 1 : Nat) : Int) by omega, blen_int]
    rw [eb]
    refine ⟨_, rfl, _, rfl, _, rfl, _, rfl, _, rfl, wd, rfl, by omega, fun h H2 tl s2 => ?_⟩
    have lt := low_tall w1.1 tl
    have h14 : h ≤ 14 := by
      refine Nat.le_of_not_lt fun l => ?_
      rcases tl.2 with e | e
      · omega
      · have := leastW_mono (show 15 ≤ h from l)
        have : leastW 15 = 1597 := by decide
        omega
    refine ⟨_, rfl, _, _, rfl, rfl, _, _, rfl, rfl, p, m + 1, _, rfl, F1.same s2, by omega, by omega, by omega, fun H3 g3 b3 F3 g30 g31 => ?_⟩
    obtain ⟨hh, eh⟩ : ∃ hh : Nat, (blen (wd - 1) : Int) + g3 = (hh : Int) := ⟨((blen (wd - 1) : Int) + g3).toNat, by omega⟩
    have lh : blen (wd - 1) ≤ hh ∧ hh ≤ h := by omega
    have c14 := balCost_mono (show hh ≤ 14 by omega)
    have c15 : balCost 14 = 32766 := by decide
    have h1 : leastW hh ≤ wd := by
      have := leastW_mono lh.2
      rcases tl.2 with e | e
      · rw [show hh = 0 by omega]
        exact w1.1
      · omega
    refine ⟨_, _, rfl, rfl, p, m + 1 + 1, wd, hh, congrArg (fun z => [V.ref p, .int (wd : Nat), .int z]) eh, F3, by omega, by omega, by omega, by omega, h1, wid_blen w1.1 lh.1, fun H4 v t b4 F4 R e1 e2 e3 => ?_⟩
    exact q H4 v t (b1.trans ((But.of s2).trans (b3.trans b4))) (F4.mono (by omega)) R e3 (by omega) (by omega)
end

section
variable {P : Program} {w : World} {K : PySem.W.Frag} {mg : Str → Option Value} {base : Heap} {cMatchError cBadShape cBadCount cBadBalance cStem cBuilder : Addr}
/-- (width, height) of a balanced shape, else None -/
def SizAt (K : PySem.W.Frag) (H : Hp) (v : V) (t : Th) : Prop := (t.isBal = false ∧ v = .non) ∨ (t.isBal = true ∧ ∃ a, v = .ref a ∧ SqT K H a [.int (t.wid : Nat), .int (t.hgt : Nat)])
theorem SizAt.same {K : PySem.W.Frag} {H H' : Hp} {v : V} {t : Th} (s : Same H H') (h : SizAt K H v t) : SizAt K H' v t := by
  rcases h with h | ⟨h, a, e, h2⟩
  · exact .inl h
  · exact .inr ⟨h, a, e, Same.seqT s h2⟩
def spLSizes (K : PySem.W.Frag) (n : Nat) : Sp := fun vs H Q _ => ∃ v t, vs = [v] ∧ RepTh K H v t ∧ t.hgt < n ∧ ∀ u H', Same H H' → SizAt K H' u t → Q u H'
theorem ok__law_sizes (T : Top K mg cMatchError cBadShape cBadCount cBadBalance cStem cBuilder) : ∀ n, Cl P w K mg base n "_law_sizes" ["shape"] (spLSizes K n)
  | 0 => by
    exact T.d__law_sizes.never fun vs H Q E h => by
      obtain ⟨_, _, _, _, z, _⟩ := h
      cases z
  | n + 1 => by
    have ih := ok__law_sizes T n
    refine T.d__law_sizes.ok sc__law_sizes (fun vs H Q E h => ?_) (fun f cdv A outer s H vs Q E hr h => ?_)
    · obtain ⟨v, t, rfl, _⟩ := h
      rfl
    · refine ⟨_, (pss_cons (ps_if (pt_cmpR op_isN (pv 0) pe_non (nomark _)) (pss_one (ps_ret (pe_tup (pa_cons pe_int (pa_cons pe_int pa_nil))))) pss_nil)
      (pss_cons (ps_if (PW.pt (pw_or (pt_not (pt_val (pe_callB call_isi (by rfl) T.n_isinstance (by decide +kernel) (pa_cons (pv 0) (pa_cons (pe_bltn (v := .ty "tuple") (by rfl) T.n_tuple (by decide +kernel) rfl) pa_nil))))) (pw_or1 (pt_cmpR op_ne (pe_callB call_len_seq (by rfl) T.n_len (by decide +kernel) (pa_cons (pv 0) pa_nil)) pe_int (nomark _))))) (pss_one (ps_ret pe_non)) pss_nil)
      (pss_cons (ps_par (i := 1) (j := 2) (by rfl) sc__law_sizes.nd rfl rfl (by decide) rfl rfl (pa_cons (pcN ih hr (Nat.le_refl _) (pa_cons (pe_ix ix_tup (pv 0) pe_int (fun _ _ => rfl)) pa_nil)) (pa_cons (pcN ih hr (Nat.le_refl _) (pa_cons (pe_ix ix_tup (pv 0) pe_int (fun _ _ => rfl)) pa_nil)) pa_nil)) (by rfl))
      (pss_cons (ps_if (PW.pt (pw_or (pt_cmpR op_isN (pv 1) pe_non (nomark _)) (pw_or (pt_cmpR op_isN (pv 2) pe_non (nomark _)) (pw_or1 (pt_cmpR op_gt (pe_callB call_abs (by rfl) T.n_abs (by decide +kernel) (pa_cons (pe_op op_sub (pe_ix ix_tup (pv 1) pe_int (fun _ _ => rfl)) (pe_ix ix_tup (pv 2) pe_int (fun _ _ => rfl))) pa_nil)) pe_int (nomark _)))))) (pss_one (ps_ret pe_non)) pss_nil)
      (pss_one (ps_ret (pe_tup (pa_cons (pe_op op_add (pe_ix ix_tup (pv 1) pe_int (fun _ _ => rfl)) (pe_ix ix_tup (pv 2) pe_int (fun _ _ => rfl))) (pa_cons (pe_op op_add pe_int (pe_callB (call_max2 rfl) (by rfl) T.n_max (by decide +kernel) (pa_cons (pe_ix ix_tup (pv 1) pe_int (fun _ _ => rfl)) (pa_cons (pe_ix ix_tup (pv 2) pe_int (fun _ _ => rfl)) pa_nil)))) pa_nil))))))))), ?_⟩
      obtain ⟨v, t, rfl, r, hm, q⟩ := h
      cases r with
      | one =>
        refine ⟨_, rfl, rfl, _, rfl, iteT ⟨by show 2 ≤ sizeLine; decide, fun l nl => ?_⟩⟩
        exact q _ _ (same_new nl) (.inr ⟨rfl, l, rfl, sqT_of upd_same⟩)
      | @other v n ty hn nn ht =>
        refine ⟨_, rfl, rfl, _, rfl, ?_⟩
        rw [decide_eq_false nn]
        refine iteF ?_
        have k1 : PySem.W.kitOne K (.type n) (.type "tuple") = some (n == "tuple") := by
          simp only [kinds, List.mem_cons, List.not_mem_nil, or_false] at hn
          rcases hn with rfl | rfl | rfl | rfl | rfl | rfl | rfl <;> exact kit_ty (by decide +kernel)
        have q0 := q .non H (Same.refl _) (.inl ⟨rfl, rfl⟩)
        refine ⟨_, rfl, _, _, _, _, _, rfl, .ty "tuple", ty, k1, _, rfl, ?_⟩
        by_cases hd : n = "tuple"
        · subst hd
          obtain ⟨a, xs, rfl, hS, hl⟩ := ht rfl
          refine iteF ?_
          refine ⟨_, rfl, a, xs, rfl, .inr hS, rfl, _, rfl, ?_⟩
          rw [decide_eq_false (show ¬ (V.int xs.length = V.int 2) from fun z => hl (by have := V.int.inj z; omega))]
          exact iteT q0
        · have hb : (n == "tuple") = false := by simpa using hd
          rw [hb]
          exact iteT q0
      | @pair a v1 v2 t1 t2 hS r1 r2 =>
        have hm : 1 + max t1.hgt t2.hgt < n + 1 := hm
        refine ⟨_, rfl, rfl, _, rfl, iteF ?_⟩
        refine ⟨_, rfl, _, _, _, _, _, rfl, .ty "tuple", ty_t hS, kit_ty (r := true) (by decide +kernel), _, rfl, iteF ?_⟩
        refine ⟨_, rfl, a, _, rfl, .inr hS, rfl, _, rfl, iteF ?_⟩
        refine ⟨_, rfl, a, _, _, _, rfl, rfl, hS, atI_nat (j := 0) rfl, v1, t1, rfl, r1, by omega, fun u1 H1 s1 q1 => ?_⟩
        refine ⟨_, rfl, a, _, _, _, rfl, rfl, Same.seqT s1 hS, atI_nat (j := 1) rfl, v2, t2, rfl, r2.keep (Keep.of s1), by omega, fun u2 H2 s2 q2 => ?_⟩
        have q1 := q1.same s2
        have s12 := s1.trans s2
        have ebal : (t1.pair t2).isBal = (t1.isBal && t2.isBal && decide (t1.hgt ≤ t2.hgt + 1) && decide (t2.hgt ≤ t1.hgt + 1)) := rfl
        refine ⟨_, _, rfl, ?_⟩
        rcases q1 with ⟨b1, rfl⟩ | ⟨b1, c1, rfl, z1⟩
        · refine ⟨_, rfl, rfl, _, rfl, iteT ?_⟩
          exact q .non H2 s12 (.inl ⟨by rw [ebal, b1]; rfl, rfl⟩)
        · refine ⟨_, rfl, rfl, _, rfl, iteF ?_⟩
          rcases q2 with ⟨b2, rfl⟩ | ⟨b2, c2, rfl, z2⟩
          · refine ⟨_, rfl, rfl, _, rfl, iteT ?_⟩
            exact q .non H2 s12 (.inl ⟨by rw [ebal, b2, Bool.and_false]; rfl, rfl⟩)
          · refine ⟨_, rfl, rfl, _, rfl, iteF ?_⟩
            refine ⟨_, rfl, c1, _, _, _, rfl, rfl, z1, atI_nat (j := 1) rfl, _, rfl, c2, _, _, _, rfl, rfl, z2, atI_nat (j := 1) rfl, _, _, rfl, rfl, _, rfl, _, _, rfl, rfl, _, rfl, ?_⟩
            show if decide (1 < farI (t1.hgt : Int) (t2.hgt : Int)) = true then _ else _
            refine ite2 (fun e => ?_) (fun e => ?_)
            · have e1 := farI_lt.mp (of_decide_eq_true e)
              exact q .non H2 s12 (.inl ⟨by
                cases h : (t1.pair t2).isBal with
                | false => rfl
                | true =>
                  rw [ebal] at h
                  simp only [Bool.and_eq_true, decide_eq_true_eq] at h
                  omega, rfl⟩)
            · have e1 : ¬ 1 < farI (t1.hgt : Int) (t2.hgt : Int) := fun z => e (decide_eq_true z)
              rw [farI_lt, Classical.not_not] at e1
              have hb : (t1.pair t2).isBal = true := by
                rw [ebal, b1, b2, decide_eq_true (show t1.hgt ≤ t2.hgt + 1 by omega), decide_eq_true (show t2.hgt ≤ t1.hgt + 1 by omega)]
                rfl
              refine ⟨_, rfl, c1, _, _, _, rfl, rfl, z1, atI_nat (j := 0) rfl, _, rfl, c2, _, _, _, rfl, rfl, z2, atI_nat (j := 0) rfl, _, _, rfl, rfl, ?_⟩
              refine ⟨_, rfl, c1, _, _, _, rfl, rfl, z1, atI_nat (j := 1) rfl, _, rfl, c2, _, _, _, rfl, rfl, z2, atI_nat (j := 1) rfl, _, _, rfl, _, _, rfl, rfl, by show 2 ≤ sizeLine; decide, fun l nl => ?_⟩
              have e2 : [V.int ((t1.wid : Int) + (t2.wid : Int)), V.int (1 + if (t2.hgt : Int) > (t1.hgt : Int) then (t2.hgt : Int) else (t1.hgt : Int))] = [V.int ((t1.pair t2).wid : Nat), V.int ((t1.pair t2).hgt : Nat)] := by
                have e3 : (t1.wid : Int) + (t2.wid : Int) = ((t1.pair t2).wid : Nat) := by
                  show _ = ((t1.wid + t2.wid : Nat) : Int)
                  omega
                have e4 : (1 + if (t2.hgt : Int) > (t1.hgt : Int) then (t2.hgt : Int) else (t1.hgt : Int)) = ((t1.pair t2).hgt : Nat) := by
                  show _ = ((1 + max t1.hgt t2.hgt : Nat) : Int)
                  split <;> omega
                rw [e3, e4]
              exact q (.ref l) _ (s12.trans (same_new nl)) (.inr ⟨hb, l, rfl, sqT_of (upd_same.trans (congrArg (fun z => some (HO.tup z)) e2))⟩)
end

section
variable {P : Program} {w : World} {K : PySem.W.Frag} {mg : Str → Option Value} {base : Heap} {cMatchError cBadShape cBadCount cBadBalance cStem cBuilder : Addr}
def spShapeOf (K : PySem.W.Frag) (C : Addr) (n : Nat) : Sp := fun vs H Q _ => ∃ v, vs = [v] ∧ 0 < n ∧ ((v = .non ∧ ∀ a H', Same H H' → SqT K H' a [] → Q (.ref a) H') ∨
  ∃ t, StAt C H v t ∧ t.hgt < n ∧ ∀ u H', Same H H' → RepTh K H' u t → Q u H')
theorem ok_shape_of (T : Top K mg cMatchError cBadShape cBadCount cBadBalance cStem cBuilder) : ∀ n, Cl P w K mg base n "shape_of" ["tree"] (spShapeOf K cStem n)
  | 0 => by
    exact T.d_shape_of.never fun vs H Q E h => by
      obtain ⟨_, _, z, _⟩ := h
      cases z
  | n + 1 => by
    have ih := ok_shape_of T n
    have nL := T.k_Stem.no "left" (by simp)
    have nR := T.k_Stem.no "right" (by simp)
    have nH := T.k_Stem.no "height" (by simp)
    refine T.d_shape_of.ok sc_shape_of (fun vs H Q E h => ?_) (fun f cdv A outer s H vs Q E hr h => ?_)
    · obtain ⟨v, rfl, _⟩ := h
      rfl
    · refine ⟨_, (pss_cons (ps_if (pt_cmpR op_isN (pv 0) pe_non (nomark _)) (pss_one (ps_ret (pe_tup pa_nil))) pss_nil)
      (pss_cons (ps_if (pt_cmpR op_eq (pe_fld (pv 0) rfl) pe_int (nomark _)) (pss_one (ps_ret pe_non)) pss_nil)
      (pss_one (ps_ret (pe_tup (pa_cons (pcN ih hr (Nat.le_refl _) (pa_cons (pe_fld (pv 0) rfl) pa_nil)) (pa_cons (pcN ih hr (Nat.le_refl _) (pa_cons (pe_fld (pv 0) rfl) pa_nil)) pa_nil))))))), ?_⟩
      obtain ⟨v, rfl, _, h⟩ := h
      rcases h with ⟨rfl, q⟩ | ⟨t, r, hm, q⟩
      · refine ⟨_, rfl, rfl, _, rfl, iteT ⟨by show 0 ≤ sizeLine; decide, fun l nl => ?_⟩⟩
        exact q l _ (same_new nl) (sqT_of upd_same)
      · cases r with
        | @one a dx h =>
          refine ⟨_, rfl, rfl, _, rfl, iteF ?_⟩
          refine ⟨_, rfl, a, cStem, _, _, _, rfl, h, T.k_Stem.cl, nH, stF_height, rfl, _, rfl, iteT ?_⟩
          exact q .non H (Same.refl _) .one
        | @pair a dx v1 v2 t1 t2 h r1 r2 =>
          have hm : 1 + max t1.hgt t2.hgt < n + 1 := hm
          refine ⟨_, rfl, rfl, _, rfl, iteF ?_⟩
          refine ⟨_, rfl, a, cStem, _, _, _, rfl, h, T.k_Stem.cl, nH, stF_height, rfl, _, rfl, ?_⟩
          rw [decide_eq_false (show ¬ V.int ((1 + max t1.hgt t2.hgt : Nat) : Int) = V.int 0 from fun z => by have := V.int.inj z; omega)]
          refine iteF ?_
          refine ⟨_, rfl, a, cStem, _, _, _, rfl, h, T.k_Stem.cl, nL, stF_left, v1, rfl, by omega, .inr ⟨t1, r1, by omega, fun u1 H1 s1 q1 => ?_⟩⟩
          refine ⟨_, rfl, a, cStem, _, _, _, rfl, s1 _ _ h, T.k_Stem.cl, nR, stF_right, v2, rfl, by omega, .inr ⟨t2, r2.same s1, by omega, fun u2 H2 s2 q2 => ?_⟩⟩
          refine ⟨by show 2 ≤ sizeLine; decide, fun l nl => ?_⟩
          have s3 := same_new (o := .tup [u1, u2]) nl
          exact q _ _ (s1.trans (s2.trans s3)) (.pair (sqT_of upd_same) (q1.keep (Keep.of (s2.trans s3))) (q2.keep (Keep.of s3)))
end

section
variable {P : Program} {w : World} {K : PySem.W.Frag} {mg : Str → Option Value} {base : Heap} {cMatchError cBadShape cBadCount cBadBalance cStem cBuilder : Addr}
/-- a part of a shape as it is told: () for None -/
def PartAt (K : PySem.W.Frag) (H : Hp) (u : V) (p : Option Th) : Prop := (p = none ∧ ∃ a, u = .ref a ∧ SqT K H a []) ∨ ∃ t, p = some t ∧ RepTh K H u t
theorem PartAt.same {K : PySem.W.Frag} {H H' : Hp} {u : V} {p : Option Th} (s : Same H H') (h : PartAt K H u p) : PartAt K H' u p := by
  rcases h with ⟨e, a, e2, h⟩ | ⟨t, e, h⟩
  · exact .inl ⟨e, a, e2, Same.seqT s h⟩
  · exact .inr ⟨t, e, h.keep (Keep.of s)⟩
def spShapeP (K : PySem.W.Frag) (C : Addr) (n : Nat) : Sp := fun vs H Q _ => ∃ v p, vs = [v] ∧ StO C H v p ∧ hgtO p < n ∧ ∀ u H', Same H H' → PartAt K H' u p → Q u H'
theorem ok_shape_ofP (T : Top K mg cMatchError cBadShape cBadCount cBadBalance cStem cBuilder) (n : Nat) : Cl P w K mg base n "shape_of" ["tree"] (spShapeP K cStem n) := (ok_shape_of T n).imp fun vs H Q E h => by
  obtain ⟨v, p, rfl, z, hp, q⟩ := h
  refine ⟨v, rfl, by omega, ?_⟩
  rcases z with ⟨e, ep⟩ | ⟨t, ep, z⟩
  · exact .inl ⟨e, fun a H' s h => q _ _ s (.inl ⟨ep, a, rfl, h⟩)⟩
  · subst ep
    exact .inr ⟨t, z, hp, fun u' H' s r' => q _ _ s (.inr ⟨t, rfl, r'⟩)⟩
end

section
variable {P : Program} {w : World} {K : PySem.W.Frag} {mg : Str → Option Value} {base : Heap} {cMatchError cBadShape cBadCount cBadBalance cStem cBuilder : Addr}
theorem PartAt.keep {K : PySem.W.Frag} {H H' : Hp} {u : V} {p : Option Th} (s : Keep H H') (h : PartAt K H u p) : PartAt K H' u p := by
  rcases h with ⟨e, a, e2, h⟩ | ⟨t, e, h⟩
  · exact .inl ⟨e, a, e2, s.seqT h⟩
  · exact .inr ⟨t, e, h.keep s⟩
theorem PartAt.dp {K : PySem.W.Frag} {H : Hp} {u : V} {p : Option Th} (h : PartAt K H u p) (b : BalO p) : Dp K H u (paD p) := by
  rcases h with ⟨e, a, e2, h⟩ | ⟨t, e, h⟩
  · subst e
    subst e2
    exact .tup h .nil
  · subst e
    exact h.dp (Th.bal_sh _ (b t rfl))
theorem RepTh.emp {K : PySem.W.Frag} {H : Hp} {v : V} {t : Th} (r : RepTh K H v t) (h : t.sh = true) : EmpQ K H v false := by
  cases r with
  | one => exact .oth .non
  | other => cases h
  | pair h1 _ _ => exact .tup (xs := [_, _]) h1
/-- an entry: a shape and its width -/
def EntAt (K : PySem.W.Frag) (H : Hp) (x : V) : Prop := ∃ a v t, x = .ref a ∧ SqT K H a [v, .int (t.wid : Nat)] ∧ RepTh K H v t ∧ t.isBal = true ∧ t.wid ≤ 90
theorem EntAt.keep {K : PySem.W.Frag} {H H' : Hp} {x : V} (k : Keep H H') (h : EntAt K H x) : EntAt K H' x := by
  obtain ⟨a, v, t, e, h1, h2, h3⟩ := h
  exact ⟨a, v, t, e, k.seqT h1, h2.keep k, h3⟩
def EntsAt (K : PySem.W.Frag) (H : Hp) (xs : List V) : Prop := ∀ x ∈ xs, EntAt K H x
theorem EntsAt.keep {K : PySem.W.Frag} {H H' : Hp} {xs : List V} (k : Keep H H') (h : EntsAt K H xs) : EntsAt K H' xs := fun x hx => (h x hx).keep k
theorem bal_good {t : Th} (b : t.isBal = true) (w : t.wid ≤ 20000) : t.good := ⟨t.bal_sh b, by have := bal_hgt b w; omega, w⟩
theorem paired_at {α β : Type} {R : α → β → Prop} : ∀ {xs : List α} {ys : List β}, Paired R xs ys → ∀ (i : Nat) (x : α) (y : β), xs[i]? = some x → ys[i]? = some y → R x y
  | _, _, .nil, i, x, y, h, _ => by cases h
  | _, _, .cons h t, i, x, y, h1, h2 => by
    cases i with
    | zero => cases h1; cases h2; exact h
    | succ i => exact paired_at t i x y h1 h2
theorem paired_len {α β : Type} {R : α → β → Prop} : ∀ {xs : List α} {ys : List β}, Paired R xs ys → xs.length = ys.length
  | _, _, .nil => rfl
  | _, _, .cons _ t => congrArg Nat.succ (paired_len t)
theorem paired_imp {α β : Type} {R S : α → β → Prop} (f : ∀ x y, R x y → S x y) : ∀ {xs : List α} {ys : List β}, Paired R xs ys → Paired S xs ys
  | _, _, .nil => .nil
  | _, _, .cons h t => .cons (f _ _ h) (paired_imp f t)
def PO90 (p : Option Th) (w : Nat) : Prop := PartOk p w ∧ w ≤ 90
def nVs (ws : List Nat) : List V := ws.map fun n => V.int (n : Nat)
theorem dp_parts {K : PySem.W.Frag} {H : Hp} : ∀ {us : List V} {ps : List (Option Th)} {ws : List Nat}, Paired (PartAt K H) us ps → Paired PO90 ps ws → DpAll K H us (ps.map paD)
  | _, _, _, .nil, _ => .nil
  | _, _, _, .cons h t, .cons g u => .cons (h.dp g.1.bal) (dp_parts t u)
theorem parts_lay : ∀ ps : List (Option Th), PyData.canLayAll0 (ps.map paD) = true
  | [] => by simp [PyData.canLayAll0]
  | p :: r => by simp [PyData.canLayAll0, paD_lay p, parts_lay r]
theorem parts_depth : ∀ {ps : List (Option Th)} {ws : List Nat}, Paired PO90 ps ws → PyData.depthAll (ps.map paD) ≤ 21
  | _, _, .nil => by simp [PyData.depthAll]
  | p :: r, _, .cons g u => by
    have h1 := parts_depth u
    have h2 := paD_depth p
    have h3 : hgtP p ≤ 20 := by
      have := g.1.hgt (by have := g.2; omega)
      revert this
      cases p <;> exact id
    simp only [List.map_cons, PyData.depthAll]
    omega
end

section
variable {P : Program} {w : World} {K : PySem.W.Frag} {mg : Str → Option Value} {base : Heap} {cMatchError cBadShape cBadCount cBadBalance cStem cBuilder : Addr}
def spWidthIn (K : PySem.W.Frag) (n : Nat) : Sp := fun vs H Q _ => ∃ v t, ∃ m : Nat, vs = [v, .int m] ∧ RepTh K H v t ∧ m < n ∧ Q (.int (t.win m)) H
theorem ok_width_in (T : Top K mg cMatchError cBadShape cBadCount cBadBalance cStem cBuilder) : ∀ n, Cl P w K mg base n "width_in" ["thing", "most"] (spWidthIn K n)
  | 0 => by
    exact T.d_width_in.never fun vs H Q E h => by
      obtain ⟨_, _, _, _, _, z, _⟩ := h
      cases z
  | n + 1 => by
    have ih := ok_width_in T n
    refine T.d_width_in.ok sc_width_in (fun vs H Q E h => ?_) (fun f cdv A outer s H vs Q E hr h => ?_)
    · obtain ⟨v, t, m, rfl, _⟩ := h
      rfl
    · refine ⟨_, (pss_cons (ps_if (pt_cmpR op_isN (pv 0) pe_non (nomark _)) (pss_one (ps_ret pe_int)) pss_nil)
      (pss_cons (ps_if (PW.pt (pw_or (pt_cmpR op_eq (pv 1) pe_int (nomark _)) (pw_or (pt_not (pt_val (pe_callB call_isi (by rfl) T.n_isinstance (by decide +kernel) (pa_cons (pv 0) (pa_cons (pe_bltn (v := .ty "tuple") (by rfl) T.n_tuple (by decide +kernel) rfl) pa_nil))))) (pw_or1 (pt_cmpR op_ne (pe_callB call_len_seq (by rfl) T.n_len (by decide +kernel) (pa_cons (pv 0) pa_nil)) pe_int (nomark _)))))) (pss_one (ps_ret pe_int)) pss_nil)
      (pss_cons (ps_set (i := 2) sc_width_in.nd rfl (.inl rfl) (pcN ih hr (Nat.le_refl _) (pa_cons (pe_ix ix_tup (pv 0) pe_int (fun _ _ => rfl)) (pa_cons (pe_op op_sub (pv 1) pe_int) pa_nil))))
      (pss_cons (ps_set (i := 3) sc_width_in.nd rfl (.inl rfl) (pe_ifExp (pt_cmpR op_eq (pv 2) pe_int (nomark _)) pe_int (pcN ih hr (Nat.le_refl _) (pa_cons (pe_ix ix_tup (pv 0) pe_int (fun _ _ => rfl)) (pa_cons (pe_op op_sub (pv 1) pe_int) pa_nil)))))
      (pss_cons (ps_if (PW.pt (pw_or (pt_cmpR op_eq (pv 3) pe_int (nomark _)) (pw_or1 (pt_cmpR op_gt (pe_op op_add (pv 2) (pv 3)) (C8.pe_gc (by rfl) T.v_MOST_NODES) (nomark _))))) (pss_one (ps_ret pe_int)) pss_nil)
      (pss_one (ps_ret (pe_op op_add (pv 2) (pv 3))))))))), ?_⟩
      obtain ⟨v, t, m, rfl, r, hm, q⟩ := h
      cases r with
      | one =>
        refine ⟨_, rfl, rfl, _, rfl, iteT ?_⟩
        have e : Th.one.win m = 1 := by cases m <;> rfl
        rw [e] at q
        exact q
      | @other v n ty hn nn ht =>
        refine ⟨_, rfl, rfl, _, rfl, ?_⟩
        rw [decide_eq_false nn]
        refine iteF ?_
        have e : Th.other.win m = 0 := by cases m <;> rfl
        rw [e] at q
        refine ⟨_, rfl, rfl, _, rfl, ite2 (fun e => iteT q) (fun e => ?_)⟩
        have k1 : PySem.W.kitOne K (.type n) (.type "tuple") = some (n == "tuple") := by
          simp only [kinds, List.mem_cons, List.not_mem_nil, or_false] at hn
          rcases hn with rfl | rfl | rfl | rfl | rfl | rfl | rfl <;> exact kit_ty (by decide +kernel)
        refine ⟨_, rfl, _, _, _, _, _, rfl, .ty "tuple", ty, k1, _, rfl, ?_⟩
        by_cases hd : n = "tuple"
        · subst hd
          obtain ⟨a, xs, rfl, hS, hl⟩ := ht rfl
          refine iteF ?_
          refine ⟨_, rfl, a, xs, rfl, .inr hS, rfl, _, rfl, ?_⟩
          rw [decide_eq_false (show ¬ (V.int xs.length = V.int 2) from fun z => hl (by have := V.int.inj z; omega))]
          exact iteT q
        · have hb : (n == "tuple") = false := by simpa using hd
          rw [hb]
          exact iteT (iteT q)
      | @pair a v1 v2 t1 t2 hS r1 r2 =>
        refine ⟨_, rfl, rfl, _, rfl, iteF ?_⟩
        cases m with
        | zero => exact ⟨_, rfl, rfl, _, rfl, iteT (iteT q)⟩
        | succ m =>
          refine ⟨_, rfl, rfl, _, rfl, ?_⟩
          rw [decide_eq_false (show ¬ (V.int ((m + 1 : Nat) : Int) = V.int 0) from fun z => by cases z)]
          refine iteF ?_
          refine ⟨_, rfl, _, _, _, _, _, rfl, .ty "tuple", ty_t hS, kit_ty (r := true) (by decide +kernel), _, rfl, iteF ?_⟩
          refine ⟨_, rfl, a, _, rfl, .inr hS, rfl, _, rfl, iteF ?_⟩
          have em : ((m + 1 : Nat) : Int) - 1 = (m : Int) := by omega
          refine ⟨_, rfl, a, _, _, _, rfl, rfl, hS, atI_nat (j := 0) rfl, _, rfl, _, _, rfl, rfl, ?_⟩
          refine ⟨v1, t1, m, congrArg (fun z => [_, V.int z]) em, r1, by omega, ?_⟩
          refine ⟨_, rfl, rfl, _, rfl, ?_⟩
          have qq : (t1.pair t2).win (m + 1) = if t1.win m = 0 ∨ t2.win m = 0 ∨ 20000 < t1.win m + t2.win m then 0 else t1.win m + t2.win m := rfl
          rw [qq] at q
          refine ite2 (fun e => ?_) (fun e => ?_)
          · have e1 : t1.win m = 0 := by
              have := V.int.inj (of_decide_eq_true e)
              omega
            refine ⟨_, rfl, rfl, _, rfl, iteT (iteT ?_)⟩
            rw [if_pos (.inl e1)] at q
            exact q
          · have e1 : t1.win m ≠ 0 := fun z => e (decide_eq_true (by rw [z]; rfl))
            refine ⟨_, rfl, a, _, _, _, rfl, rfl, hS, atI_nat (j := 1) rfl, _, rfl, _, _, rfl, rfl, ?_⟩
            refine ⟨v2, t2, m, congrArg (fun z => [_, V.int z]) em, r2, by omega, ?_⟩
            refine ⟨_, rfl, rfl, _, rfl, ite2 (fun e => ?_) (fun e => ?_)⟩
            · have e2 : t2.win m = 0 := by
                have := V.int.inj (of_decide_eq_true e)
                omega
              rw [if_pos (.inr (.inl e2))] at q
              exact iteT q
            · have e2 : t2.win m ≠ 0 := fun z => e (decide_eq_true (by rw [z]; rfl))
              refine ⟨_, rfl, _, rfl, _, _, rfl, rfl, _, _, rfl, rfl, _, rfl, ?_⟩
              refine ite2 (fun e => ?_) (fun e => ?_)
              · have e3 : (20000 : Int) < t1.win m + t2.win m := of_decide_eq_true e
                rw [if_pos (.inr (.inr (by omega)))] at q
                exact q
              · have e3 : ¬ (20000 : Int) < t1.win m + t2.win m := fun z => e (decide_eq_true z)
                rw [if_neg (by omega)] at q
                exact ⟨_, rfl, _, rfl, _, _, rfl, rfl, q⟩
end

section
variable {P : Program} {w : World} {K : PySem.W.Frag} {mg : Str → Option Value} {base : Heap} {cMatchError cBadShape cBadCount cBadBalance cStem cBuilder : Addr}
def spNeedShape (K : PySem.W.Frag) (C : Addr) : Sp := fun vs H Q E => ∃ v t, vs = [v] ∧ RepTh K H v t ∧ (t.good → Q (.int t.wid) H) ∧ (¬ t.good → E (.ref C) none H)
theorem ok_need_shape (T : Top K mg cMatchError cBadShape cBadCount cBadBalance cStem cBuilder) : Cl P w K mg base 42 "need_shape" ["shape"] (spNeedShape K cBadShape) := by
  have c_width_in := ok_width_in (P := P) (w := w) (base := base) T 41
  refine T.d_need_shape.ok sc_need_shape (fun vs H Q E h => ?_) (fun f cdv A outer s H vs Q E hr h => ?_)
  · obtain ⟨v, t, rfl, _⟩ := h
    rfl
  · refine ⟨_, (pss_cons (ps_set (i := 1) sc_need_shape.nd rfl (.inl rfl) (pcN c_width_in hr (by decide) (pa_cons (pv 0) (pa_cons (C8.pe_gc (by rfl) T.v_MOST_HEIGHT) pa_nil))))
      (pss_cons (ps_if (pt_cmpR op_eq (pv 1) pe_int (nomark _)) (pss_one (ps_raise rfl (takes_of rfl rfl rfl rfl) (pmk_own PySem.F.excBase_ValueError T.e_BadShape.x T.e_BadShape.g T.e_BadShape.k (raises_own T.e_BadShape.b T.e_BadShape.t) (by rfl)))) pss_nil)
      (pss_one (ps_ret (pv 1))))), ?_⟩
    obtain ⟨v, t, rfl, r, qy, qn⟩ := h
    refine ⟨_, rfl, v, t, 40, rfl, r, by decide, ?_⟩
    rw [t.win_eq 40]
    refine ⟨_, rfl, rfl, _, rfl, ?_⟩
    by_cases g : t.good
    · have g' : t.sh = true ∧ t.hgt ≤ 40 ∧ t.wid ≤ 20000 := g
      have p := t.wid_pos g.1
      rw [if_pos g']
      rw [decide_eq_false (show ¬ V.int (t.wid : Int) = V.int 0 from fun z => by have := V.int.inj z; omega)]
      exact iteF ⟨_, rfl, qy g⟩
    · have g' : ¬ (t.sh = true ∧ t.hgt ≤ 40 ∧ t.wid ≤ 20000) := g
      rw [if_neg g']
      exact iteT (qn g)
end

section
variable {P : Program} {w : World} {K : PySem.W.Frag} {mg : Str → Option Value} {base : Heap} {cMatchError cBadShape cBadCount cBadBalance cStem cBuilder : Addr}
def spBalancedHeight (K : PySem.W.Frag) (n : Nat) : Sp := fun vs H Q _ => ∃ v t, vs = [v] ∧ RepTh K H v t ∧ t.sh = true ∧ t.hgt < n ∧ Q (.int t.bal) H
theorem ok_balanced_height (T : Top K mg cMatchError cBadShape cBadCount cBadBalance cStem cBuilder) : ∀ n, Cl P w K mg base n "balanced_height" ["shape"] (spBalancedHeight K n)
  | 0 => by
    exact T.d_balanced_height.never fun vs H Q E h => by
      obtain ⟨_, _, _, _, _, z, _⟩ := h
      cases z
  | n + 1 => by
    have ih := ok_balanced_height T n
    refine T.d_balanced_height.ok sc_balanced_height (fun vs H Q E h => ?_) (fun f cdv A outer s H vs Q E hr h => ?_)
    · obtain ⟨v, t, rfl, _⟩ := h
      rfl
    · refine ⟨_, (pss_cons (ps_if (pt_cmpR op_isN (pv 0) pe_non (nomark _)) (pss_one (ps_ret pe_int)) pss_nil)
      (pss_cons (ps_set (i := 1) sc_balanced_height.nd rfl (.inl rfl) (pcN ih hr (Nat.le_refl _) (pa_cons (pe_ix ix_tup (pv 0) pe_int (fun _ _ => rfl)) pa_nil)))
      (pss_cons (ps_set (i := 2) sc_balanced_height.nd rfl (.inl rfl) (pcN ih hr (Nat.le_refl _) (pa_cons (pe_ix ix_tup (pv 0) pe_int (fun _ _ => rfl)) pa_nil)))
      (pss_cons (ps_if (PW.pt (pw_or (pt_cmpR op_lt (pe_callB (call_min2 rfl) (by rfl) T.n_min (by decide +kernel) (pa_cons (pv 1) (pa_cons (pv 2) pa_nil))) pe_int (nomark _)) (pw_or1 (pt_cmpR op_gt (pe_callB call_abs (by rfl) T.n_abs (by decide +kernel) (pa_cons (pe_op op_sub (pv 1) (pv 2)) pa_nil)) pe_int (nomark _))))) (pss_one (ps_ret (pe_un un_neg pe_int))) pss_nil)
      (pss_one (ps_ret (pe_op op_add pe_int (pe_callB (call_max2 rfl) (by rfl) T.n_max (by decide +kernel) (pa_cons (pv 1) (pa_cons (pv 2) pa_nil)))))))))), ?_⟩
      obtain ⟨v, t, rfl, r, sh, hm, q⟩ := h
      cases r with
      | one => exact ⟨_, rfl, rfl, _, rfl, iteT q⟩
      | other => cases sh
      | @pair a v1 v2 t1 t2 hS r1 r2 =>
        have sh : (t1.sh && t2.sh) = true := sh
        rw [Bool.and_eq_true] at sh
        have hm : 1 + max t1.hgt t2.hgt < n + 1 := hm
        refine ⟨_, rfl, rfl, _, rfl, iteF ?_⟩
        refine ⟨_, rfl, a, _, _, _, rfl, rfl, hS, atI_nat (j := 0) rfl, v1, t1, rfl, r1, sh.1, by omega, ?_⟩
        refine ⟨_, rfl, a, _, _, _, rfl, rfl, hS, atI_nat (j := 1) rfl, v2, t2, rfl, r2, sh.2, by omega, ?_⟩
        have qq : (t1.pair t2).bal = if min t1.bal t2.bal < 0 ∨ 1 < farI t1.bal t2.bal then -1 else 1 + max t1.bal t2.bal := rfl
        rw [qq] at q
        have e1 : (if t2.bal < t1.bal then t2.bal else t1.bal) = min t1.bal t2.bal := by split <;> omega
        have e2 : (if t2.bal > t1.bal then t2.bal else t1.bal) = max t1.bal t2.bal := by split <;> omega
        refine ⟨_, rfl, _, rfl, _, _, rfl, _, _, rfl, rfl, _, rfl, ?_⟩
        show if decide ((if t2.bal < t1.bal then t2.bal else t1.bal) < 0) = true then _ else _
        rw [e1]
        refine ite2 (fun e => ?_) (fun e => ?_)
        · rw [if_pos (.inl (of_decide_eq_true e))] at q
          exact iteT ⟨_, rfl, q⟩
        · refine ⟨_, rfl, _, rfl, _, _, rfl, rfl, _, rfl, _, _, rfl, rfl, _, rfl, ?_⟩
          show if decide (1 < farI t1.bal t2.bal) = true then _ else _
          refine ite2 (fun e3 => ?_) (fun e3 => ?_)
          · rw [if_pos (.inr (of_decide_eq_true e3))] at q
            exact ⟨_, rfl, q⟩
          · rw [if_neg (fun h => h.elim (fun z => e (decide_eq_true z)) fun z => e3 (decide_eq_true z))] at q
            refine ⟨_, rfl, _, rfl, _, _, rfl, _, _, rfl, rfl, ?_⟩
            show Q (.int (1 + if t2.bal > t1.bal then t2.bal else t1.bal)) H
            rw [e2]
            exact q
end

section
variable {P : Program} {w : World} {K : PySem.W.Frag} {mg : Str → Option Value} {base : Heap} {cMatchError cBadShape cBadCount cBadBalance cStem cBuilder : Addr}
def spNeedBal (K : PySem.W.Frag) (C D : Addr) : Sp := fun vs H Q E => ∃ v t, vs = [v] ∧ RepTh K H v t ∧ (t.good → t.isBal = true → Q (.int t.wid) H) ∧ (¬ t.good → E (.ref C) none H) ∧ (t.good → t.isBal = false → E (.ref D) none H)
theorem ok_need_balanced (T : Top K mg cMatchError cBadShape cBadCount cBadBalance cStem cBuilder) : Cl P w K mg base 43 "need_balanced" ["shape"] (spNeedBal K cBadShape cBadBalance) := by
  have c_need_shape := ok_need_shape (P := P) (w := w) (base := base) T
  have c_balanced_height := ok_balanced_height (P := P) (w := w) (base := base) T 41
  refine T.d_need_balanced.ok sc_need_balanced (fun vs H Q E h => ?_) (fun f cdv A outer s H vs Q E hr h => ?_)
  · obtain ⟨v, t, rfl, _⟩ := h
    rfl
  · refine ⟨_, (pss_cons (ps_set (i := 1) sc_need_balanced.nd rfl (.inl rfl) (pcT c_need_shape hr (by decide) (takes_of rfl rfl rfl rfl) (pa_cons (pv 0) pa_nil)))
      (pss_cons (ps_if (pt_cmpR op_lt (pcN c_balanced_height hr (by decide) (pa_cons (pv 0) pa_nil)) pe_int (nomark _)) (pss_one (ps_raise rfl (takes_of rfl rfl rfl rfl) (pmk_own PySem.F.excBase_ValueError T.e_BadBalance.x T.e_BadBalance.g T.e_BadBalance.k (raises_own T.e_BadBalance.b T.e_BadBalance.t) (by rfl)))) pss_nil)
      (pss_one (ps_ret (pv 1))))), ?_⟩
    obtain ⟨v, t, rfl, r, qy, qn, qb⟩ := h
    refine ⟨_, rfl, v, t, rfl, r, fun g => ?_, qn⟩
    refine ⟨_, rfl, v, t, rfl, r, g.1, by have := g.2.1; omega, ?_⟩
    rw [t.bal_eq]
    refine ⟨_, _, rfl, rfl, _, rfl, ?_⟩
    cases hb : t.isBal with
    | true =>
      refine ite2 (fun e => ?_) (fun e => ⟨_, rfl, qy g hb⟩)
      have e : (if true = true then (t.hgt : Int) else -1) < 0 := of_decide_eq_true e
      rw [if_pos rfl] at e
      omega
    | false =>
      refine iteT ?_
      exact qb g hb
end

section
variable {P : Program} {w : World} {K : PySem.W.Frag} {mg : Str → Option Value} {base : Heap} {cMatchError cBadShape cBadCount cBadBalance cStem cBuilder : Addr}
def spStemInit (C : Addr) : Sp := fun vs H Q _ => ∃ (p dx : Addr) (l r : V), vs = [.ref p, l, r] ∧ H p = some (.ins C dx []) ∧
  ((l = .non ∧ Q .non (upd H p (.ins C dx (stF .non r 1 0)))) ∨
   ∃ t1 t2, StAt C H l t1 ∧ StAt C H r t2 ∧ Q .non (upd H p (.ins C dx (stF l r ((t1.wid + t2.wid : Nat) : Int) ((1 + max t1.hgt t2.hgt : Nat) : Int)))))
theorem ok_Stem_init (T : Top K mg cMatchError cBadShape cBadCount cBadBalance cStem cBuilder) : Mc P w K mg base 1 cStem "__init__" ["self", "left", "right"] (spStemInit cStem) := by
  refine T.m_Stem_init.ok sc_Stem_init (fun vs H Q E h => ?_) (fun f cdv A outer s H vs Q E hr h => ?_)
  · obtain ⟨p, dx, l, r, rfl, _⟩ := h
    rfl
  · refine ⟨_, (pss_cons (ps_fld (pv 0) (pv 1) rfl)
      (pss_cons (ps_fld (pv 0) (pv 2) rfl)
      (pss_cons (ps_fld (pv 0) (pe_ifExp (pt_cmpR op_isN (pv 1) pe_non (nomark _)) pe_int (pe_op op_add (pe_fld (pv 1) rfl) (pe_fld (pv 2) rfl))) rfl)
      (pss_one (ps_fld (pv 0) (pe_ifExp (pt_cmpR op_isN (pv 1) pe_non (nomark _)) pe_int (pe_op op_add pe_int (pe_callB (call_max2 rfl) (by rfl) T.n_max (by decide +kernel) (pa_cons (pe_fld (pv 1) rfl) (pa_cons (pe_fld (pv 2) rfl) pa_nil))))) rfl))))), ?_⟩
    obtain ⟨p, dx, l, r, rfl, hp, h⟩ := h
    have nL := T.k_Stem.no "left" (by simp)
    have nR := T.k_Stem.no "right" (by simp)
    have nW := T.k_Stem.no "width" (by simp)
    have nH := T.k_Stem.no "height" (by simp)
    refine ⟨_, rfl, _, rfl, p, cStem, dx, [], rfl, hp, T.k_Stem.cl, nL, by show 0 < 1000; decide, ?_⟩
    rw [pf1]
    refine ⟨_, rfl, _, rfl, p, cStem, dx, _, rfl, upd_same, T.k_Stem.cl, nR, by show 1 < 1000; decide, ?_⟩
    rw [pf2, upd_upd]
    have hp2 : upd H p (.ins cStem dx [("left", l), ("right", r)]) p = some (.ins cStem dx [("left", l), ("right", r)]) := upd_same
    rcases h with ⟨rfl, q⟩ | ⟨t1, t2, r1, r2, q⟩
    · refine ⟨_, rfl, rfl, _, rfl, iteT ?_⟩
      refine ⟨_, rfl, p, cStem, dx, _, rfl, hp2, T.k_Stem.cl, nW, by show 2 < 1000; decide, ?_⟩
      rw [pf3, upd_upd]
      refine ⟨_, rfl, rfl, _, rfl, iteT ?_⟩
      refine ⟨_, rfl, p, cStem, dx, _, rfl, upd_same, T.k_Stem.cl, nH, by show 3 < 1000; decide, ?_⟩
      rw [pf4, upd_upd]
      exact q
    · obtain ⟨a1, d1, l1, s1, rfl, h1⟩ := r1.at_
      obtain ⟨a2, d2, l2, s2, rfl, h2⟩ := r2.at_
      have n1 := StAt.ne hp (by decide) h1
      have n2 := StAt.ne hp (by decide) h2
      have ew : ((t1.wid : Int) + (t2.wid : Int)) = ((t1.wid + t2.wid : Nat) : Int) := by omega
      have eh : (1 + (if (t2.hgt : Int) > (t1.hgt : Int) then (t2.hgt : Int) else (t1.hgt : Int))) = ((1 + max t1.hgt t2.hgt : Nat) : Int) := by split <;> omega
      refine ⟨_, rfl, rfl, _, rfl, iteF ?_⟩
      refine ⟨_, rfl, a1, cStem, _, _, _, rfl, (upd_ne n1).trans h1, T.k_Stem.cl, nW, stF_width, _, rfl, a2, cStem, _, _, _, rfl, (upd_ne n2).trans h2, T.k_Stem.cl, nW, stF_width, _, _, rfl, rfl, ?_⟩
      refine ⟨_, rfl, p, cStem, dx, _, rfl, hp2, T.k_Stem.cl, nW, by show 2 < 1000; decide, ?_⟩
      rw [pf3, upd_upd]
      refine ⟨_, rfl, rfl, _, rfl, iteF ?_⟩
      refine ⟨_, rfl, a1, cStem, _, _, _, rfl, (upd_ne n1).trans h1, T.k_Stem.cl, nH, stF_height, _, rfl, a2, cStem, _, _, _, rfl, (upd_ne n2).trans h2, T.k_Stem.cl, nH, stF_height, _, _, rfl, _, _, rfl, rfl, ?_⟩
      refine ⟨_, rfl, p, cStem, dx, _, rfl, upd_same, T.k_Stem.cl, nH, by show 3 < 1000; decide, ?_⟩
      rw [pf4, upd_upd]
      show Q .non (upd H p (.ins cStem dx [("left", .ref a1), ("right", .ref a2), ("width", .int ((t1.wid : Int) + (t2.wid : Int))), ("height", .int (1 + (if (t2.hgt : Int) > (t1.hgt : Int) then (t2.hgt : Int) else (t1.hgt : Int))))]))
      rw [eh, ew]
      exact q

theorem same_upd2 {H H1 : Hp} {x : Addr} {o : HO} (nx : H x = none) (s : Same H H1) : Same H (upd H1 x o) := fun b u e => by
  rw [upd_ne (ne_of_none e nx)]
  exact s b u e
/-- a pair made -/
theorem mk_stem {C : Addr} {H : Hp} {x dx : Addr} {l r : V} {t1 t2 : Th} {Q : VK} {E : XK} (nx : H x = none) (nd : H dx = none) (r1 : StAt C H l t1) (r2 : StAt C H r t2)
    (q : ∀ a H', Same H H' → StAt C H' (.ref a) (.pair t1 t2) → Q (.ref a) H') : spStemInit C [.ref x, l, r] (upd (upd H dx (.own x)) x (.ins C dx [])) (fun v H2 => v = .non ∧ Q (.ref x) H2) E := by
  have S : Same H (upd (upd H dx (.own x)) x (.ins C dx [])) := same_upd2 nx (same_new nd)
  refine ⟨x, dx, l, r, rfl, upd_same, .inr ⟨t1, t2, r1.same S, r2.same S, rfl, ?_⟩⟩
  have S' : Same H (upd (upd (upd H dx (.own x)) x (.ins C dx [])) x (.ins C dx (stF l r ((t1.wid + t2.wid : Nat) : Int) ((1 + max t1.hgt t2.hgt : Nat) : Int)))) := same_upd2 nx S
  exact q x _ S' (.pair upd_same (r1.same S') (r2.same S'))
theorem mk_stem1 {C : Addr} {H : Hp} {x dx : Addr} {Q : VK} {E : XK} (nx : H x = none) (nd : H dx = none)
    (q : ∀ a H', Same H H' → StAt C H' (.ref a) .one → Q (.ref a) H') : spStemInit C [.ref x, .non, .non] (upd (upd H dx (.own x)) x (.ins C dx [])) (fun v H2 => v = .non ∧ Q (.ref x) H2) E := by
  have S : Same H (upd (upd H dx (.own x)) x (.ins C dx [])) := same_upd2 nx (same_new nd)
  exact ⟨x, dx, _, _, rfl, upd_same, .inl ⟨rfl, rfl, q x _ (same_upd2 nx S) (.one upd_same)⟩⟩
end

section
variable {P : Program} {w : World} {K : PySem.W.Frag} {mg : Str → Option Value} {base : Heap} {cMatchError cBadShape cBadCount cBadBalance cStem cBuilder : Addr}
def spStemOf (K : PySem.W.Frag) (C : Addr) (n : Nat) : Sp := fun vs H Q _ => ∃ v t, vs = [v] ∧ RepTh K H v t ∧ t.sh = true ∧ t.hgt < n ∧ ∀ a H', Same H H' → StAt C H' (.ref a) t → Q (.ref a) H'
theorem ok_stem_of (T : Top K mg cMatchError cBadShape cBadCount cBadBalance cStem cBuilder) : ∀ n, Cl P w K mg base (n + 2) "stem_of" ["shape"] (spStemOf K cStem n)
  | 0 => by
    exact T.d_stem_of.never fun vs H Q E h => by
      obtain ⟨_, _, _, _, _, z, _⟩ := h
      cases z
  | n + 1 => by
    have ih := ok_stem_of T n
    have c_Stem_init := ok_Stem_init (P := P) (w := w) (base := base) T
    refine T.d_stem_of.ok sc_stem_of (fun vs H Q E h => ?_) (fun f cdv A outer s H vs Q E hr h => ?_)
    · obtain ⟨v, t, rfl, _⟩ := h
      rfl
    · refine ⟨_, (pss_cons (ps_if (pt_cmpR op_isN (pv 0) pe_non (nomark _)) (pss_one (ps_ret (pkN' c_Stem_init T.k_Stem hr (by omega) (pa_cons pe_non (pa_cons pe_non pa_nil))))) pss_nil)
      (pss_one (ps_ret (pkN' c_Stem_init T.k_Stem hr (by omega) (pa_cons (pcN ih hr (Nat.le_refl _) (pa_cons (pe_ix ix_tup (pv 0) pe_int (fun _ _ => rfl)) pa_nil)) (pa_cons (pcN ih hr (Nat.le_refl _) (pa_cons (pe_ix ix_tup (pv 0) pe_int (fun _ _ => rfl)) pa_nil)) pa_nil)))))), ?_⟩
      obtain ⟨v, t, rfl, r, sh, hm, q⟩ := h
      cases r with
      | one => exact ⟨_, rfl, rfl, _, rfl, iteT (fun x dx nx nd ne => mk_stem1 nx nd q)⟩
      | other => cases sh
      | @pair a v1 v2 t1 t2 hS r1 r2 =>
        have sh : (t1.sh && t2.sh) = true := sh
        rw [Bool.and_eq_true] at sh
        have hm : 1 + max t1.hgt t2.hgt < n + 1 := hm
        refine ⟨_, rfl, rfl, _, rfl, iteF ?_⟩
        refine ⟨_, rfl, a, _, _, _, rfl, rfl, hS, atI_nat (j := 0) rfl, v1, t1, rfl, r1, sh.1, by omega, fun a1 H1 s1 q1 => ?_⟩
        refine ⟨_, rfl, a, _, _, _, rfl, rfl, Same.seqT s1 hS, atI_nat (j := 1) rfl, v2, t2, rfl, r2.keep (Keep.of s1), sh.2, by omega, fun a2 H2 s2 q2 => ?_⟩
        exact fun x dx nx nd ne => mk_stem nx nd (q1.same s2) q2 fun a3 H3 s3 q3 => q a3 H3 (s1.trans (s2.trans s3)) q3
end

section
variable {P : Program} {w : World} {K : PySem.W.Frag} {mg : Str → Option Value} {base : Heap} {cMatchError cBadShape cBadCount cBadBalance cStem cBuilder : Addr}
def spBPair (C : Addr) : Sp := fun vs H Q _ => ∃ b l r t1 t2, vs = [b, l, r] ∧ StAt C H l t1 ∧ StAt C H r t2 ∧ ∀ a H', Same H H' → StAt C H' (.ref a) (.pair t1 t2) → Q (.ref a) H'
theorem ok_Builder_pair (T : Top K mg cMatchError cBadShape cBadCount cBadBalance cStem cBuilder) : Mc P w K mg base 3 cBuilder "pair" ["self", "left", "right"] (spBPair cStem) := by
  have c_Stem_init := ok_Stem_init (P := P) (w := w) (base := base) T
  refine T.m_Builder_pair.ok sc_Builder_pair (fun vs H Q E h => ?_) (fun f cdv A outer s H vs Q E hr h => ?_)
  · obtain ⟨b, l, r, t1, t2, rfl, _⟩ := h
    rfl
  · refine ⟨_, (pss_one (ps_ret (pkN' c_Stem_init T.k_Stem hr (by decide) (pa_cons (pv 1) (pa_cons (pv 2) pa_nil))))), ?_⟩
    obtain ⟨b, l, r, t1, t2, rfl, r1, r2, q⟩ := h
    exact ⟨_, rfl, _, rfl, fun x dx nx nd ne => mk_stem nx nd r1 r2 q⟩
end

section
variable {P : Program} {w : World} {K : PySem.W.Frag} {mg : Str → Option Value} {base : Heap} {cMatchError cBadShape cBadCount cBadBalance cStem cBuilder : Addr}
def spBSides (K : PySem.W.Frag) (C : Addr) : Sp := fun vs H Q _ => ∃ b v t1 t2, vs = [b, v] ∧ StAt C H v (.pair t1 t2) ∧ ∀ a H' v1 v2, Same H H' → SqT K H' a [v1, v2] → StAt C H' v1 t1 → StAt C H' v2 t2 → Q (.ref a) H'
theorem ok_Builder_sides (T : Top K mg cMatchError cBadShape cBadCount cBadBalance cStem cBuilder) : Mc P w K mg base 1 cBuilder "sides" ["self", "tree"] (spBSides K cStem) := by
  refine T.m_Builder_sides.ok sc_Builder_sides (fun vs H Q E h => ?_) (fun f cdv A outer s H vs Q E hr h => ?_)
  · obtain ⟨b, v, t1, t2, rfl, _⟩ := h
    rfl
  · refine ⟨_, (pss_one (ps_ret (pe_tup (pa_cons (pe_fld (pv 1) rfl) (pa_cons (pe_fld (pv 1) rfl) pa_nil))))), ?_⟩
    obtain ⟨b, v, t1, t2, rfl, r, q⟩ := h
    have nL := T.k_Stem.no "left" (by simp)
    have nR := T.k_Stem.no "right" (by simp)
    cases r with
    | @pair a dx v1 v2 _ _ h r1 r2 =>
      refine ⟨_, rfl, a, cStem, _, _, _, rfl, h, T.k_Stem.cl, nL, stF_left, _, rfl, a, cStem, _, _, _, rfl, h, T.k_Stem.cl, nR, stF_right, by show 2 ≤ sizeLine; decide, fun l nl => ?_⟩
      exact q l _ _ _ (same_new nl) (sqT_of upd_same) (r1.same (same_new nl)) (r2.same (same_new nl))
end

section
variable {P : Program} {w : World} {K : PySem.W.Frag} {mg : Str → Option Value} {base : Heap} {cMatchError cBadShape cBadCount cBadBalance cStem cBuilder : Addr}
def spEvenPair (K : PySem.W.Frag) (C B : Addr) : Sp := fun vs H Q _ => ∃ b dx l r t1 t2, vs = [.ref b, l, r] ∧ H b = some (.ins B dx []) ∧ StAt C H l t1 ∧ StAt C H r t2 ∧ t1.isBal = true ∧ t2.isBal = true ∧
  t1.hgt ≤ t2.hgt + 2 ∧ t2.hgt ≤ t1.hgt + 2 ∧ ∀ a H', Same H H' → StAt C H' (.ref a) (evenP t1 t2) → Q (.ref a) H'
theorem ok_even_pair (T : Top K mg cMatchError cBadShape cBadCount cBadBalance cStem cBuilder) : Cl P w K mg base 4 "even_pair" ["builder", "left", "right"] (spEvenPair K cStem cBuilder) := by
  have c_Builder_pair := ok_Builder_pair (P := P) (w := w) (base := base) T
  have c_Builder_sides := ok_Builder_sides (P := P) (w := w) (base := base) T
  have nH := T.k_Stem.no "height" (by simp)
  refine T.d_even_pair.ok sc_even_pair (fun vs H Q E h => ?_) (fun f cdv A outer s H vs Q E hr h => ?_)
  · obtain ⟨b, dx, l, r, t1, t2, rfl, _⟩ := h
    rfl
  · refine ⟨_, (pss_cons (ps_if (pt_cmpR op_gt (pe_fld (pv 2) rfl) (pe_op op_add (pe_fld (pv 1) rfl) pe_int) (nomark _)) (pss_cons (ps_asg (pmN c_Builder_sides T.k_Builder.cl hr (by decide) (pv 0) (pa_cons (pv 2) pa_nil)) (pg_tup rfl (pgs_cons (pg_name (i := 3) sc_even_pair.nd rfl (.inl rfl)) (pgs_cons (pg_name (i := 4) sc_even_pair.nd rfl (.inl rfl)) pgs_nil))))
      (pss_cons (ps_if (pt_cmpR op_le (pe_fld (pv 3) rfl) (pe_fld (pv 4) rfl) (nomark _)) (pss_one (ps_ret (pmN c_Builder_pair T.k_Builder.cl hr (by decide) (pv 0) (pa_cons (pmN c_Builder_pair T.k_Builder.cl hr (by decide) (pv 0) (pa_cons (pv 1) (pa_cons (pv 3) pa_nil))) (pa_cons (pv 4) pa_nil))))) pss_nil)
      (pss_cons (ps_asg (pmN c_Builder_sides T.k_Builder.cl hr (by decide) (pv 0) (pa_cons (pv 3) pa_nil)) (pg_tup rfl (pgs_cons (pg_name (i := 5) sc_even_pair.nd rfl (.inl rfl)) (pgs_cons (pg_name (i := 6) sc_even_pair.nd rfl (.inl rfl)) pgs_nil))))
      (pss_one (ps_ret (pmN c_Builder_pair T.k_Builder.cl hr (by decide) (pv 0) (pa_cons (pmN c_Builder_pair T.k_Builder.cl hr (by decide) (pv 0) (pa_cons (pv 1) (pa_cons (pv 5) pa_nil))) (pa_cons (pmN c_Builder_pair T.k_Builder.cl hr (by decide) (pv 0) (pa_cons (pv 6) (pa_cons (pv 4) pa_nil))) pa_nil)))))))) pss_nil)
      (pss_cons (ps_if (pt_cmpR op_gt (pe_fld (pv 1) rfl) (pe_op op_add (pe_fld (pv 2) rfl) pe_int) (nomark _)) (pss_cons (ps_asg (pmN c_Builder_sides T.k_Builder.cl hr (by decide) (pv 0) (pa_cons (pv 1) pa_nil)) (pg_tup rfl (pgs_cons (pg_name (i := 4) sc_even_pair.nd rfl (.inl rfl)) (pgs_cons (pg_name (i := 3) sc_even_pair.nd rfl (.inl rfl)) pgs_nil))))
      (pss_cons (ps_if (pt_cmpR op_le (pe_fld (pv 3) rfl) (pe_fld (pv 4) rfl) (nomark _)) (pss_one (ps_ret (pmN c_Builder_pair T.k_Builder.cl hr (by decide) (pv 0) (pa_cons (pv 4) (pa_cons (pmN c_Builder_pair T.k_Builder.cl hr (by decide) (pv 0) (pa_cons (pv 3) (pa_cons (pv 2) pa_nil))) pa_nil))))) pss_nil)
      (pss_cons (ps_asg (pmN c_Builder_sides T.k_Builder.cl hr (by decide) (pv 0) (pa_cons (pv 3) pa_nil)) (pg_tup rfl (pgs_cons (pg_name (i := 5) sc_even_pair.nd rfl (.inl rfl)) (pgs_cons (pg_name (i := 6) sc_even_pair.nd rfl (.inl rfl)) pgs_nil))))
      (pss_one (ps_ret (pmN c_Builder_pair T.k_Builder.cl hr (by decide) (pv 0) (pa_cons (pmN c_Builder_pair T.k_Builder.cl hr (by decide) (pv 0) (pa_cons (pv 4) (pa_cons (pv 5) pa_nil))) (pa_cons (pmN c_Builder_pair T.k_Builder.cl hr (by decide) (pv 0) (pa_cons (pv 6) (pa_cons (pv 2) pa_nil))) pa_nil)))))))) pss_nil)
      (pss_one (ps_ret (pmN c_Builder_pair T.k_Builder.cl hr (by decide) (pv 0) (pa_cons (pv 1) (pa_cons (pv 2) pa_nil))))))), ?_⟩
    obtain ⟨b, dx, l, r, t1, t2, rfl, hb, r1, r2, b1, b2, d1, d2, q⟩ := h
    obtain ⟨a1, x1, l1, s1, rfl, h1⟩ := r1.at_
    obtain ⟨a2, x2, l2, s2, rfl, h2⟩ := r2.at_
    refine ⟨_, rfl, a2, cStem, _, _, _, rfl, h2, T.k_Stem.cl, nH, stF_height, _, rfl, a1, cStem, _, _, _, rfl, h1, T.k_Stem.cl, nH, stF_height, _, _, rfl, rfl, _, _, rfl, rfl, _, rfl, ?_⟩
    by_cases c : t1.hgt + 1 < t2.hgt
    · obtain ⟨x, y, rfl⟩ := bal_tall b2 (by omega)
      have e0 : evenP t1 (.pair x y) = evR t1 (.pair x y) := if_pos c
      rw [e0] at q
      obtain ⟨bx, by_, e1, e2⟩ := bal_pair.mp b2
      rw [hgt_pair] at c
      rw [decide_eq_true (show ((t1.hgt : Int) + 1 < ((x.pair y).hgt : Int)) by rw [hgt_pair]; omega)]
      refine iteT ?_
      refine ⟨_, rfl, b, dx, _, rfl, hb, rfl, _, rfl, _, _, x, y, rfl, r2, fun a H1 u1 u2 s1 hT q1 q2 => ?_⟩
      refine ⟨a, _, rfl, hT, rfl, _, _, rfl, _, _, rfl, rfl, ?_⟩
      obtain ⟨a3, x3, l3, s3, rfl, h3⟩ := q1.at_
      obtain ⟨a4, x4, l4, s4, rfl, h4⟩ := q2.at_
      refine ⟨_, rfl, a3, cStem, _, _, _, rfl, h3, T.k_Stem.cl, nH, stF_height, _, rfl, a4, cStem, _, _, _, rfl, h4, T.k_Stem.cl, nH, stF_height, _, _, rfl, rfl, _, rfl, ?_⟩
      by_cases c2 : x.hgt ≤ y.hgt
      · have e3 : evR t1 (.pair x y) = .pair (.pair t1 x) y := if_pos c2
        rw [e3] at q
        rw [decide_eq_true (show ((x.hgt : Int) ≤ (y.hgt : Int)) by omega)]
        refine iteT ?_
        refine ⟨_, rfl, b, dx, _, rfl, s1 _ _ hb, rfl, _, rfl, b, dx, _, rfl, s1 _ _ hb, rfl, _, rfl, _, rfl, _, _, _, _, _, rfl, r1.same s1, q1, fun a5 H5 s5 q5 => ?_⟩
        refine ⟨_, rfl, _, _, _, _, _, rfl, q5, q2.same s5, fun a6 H6 s6 q6 => ?_⟩
        exact q a6 H6 (s1.trans (s5.trans s6)) q6
      · obtain ⟨m, n, rfl⟩ := bal_tall bx (by omega)
        have e3 : evR t1 (.pair (.pair m n) y) = .pair (.pair t1 m) (.pair n y) := if_neg c2
        rw [e3] at q
        rw [decide_eq_false (show ¬ (((m.pair n).hgt : Int) ≤ (y.hgt : Int)) by omega)]
        refine iteF ?_
        refine ⟨_, rfl, b, dx, _, rfl, s1 _ _ hb, rfl, _, rfl, _, _, m, n, rfl, q1, fun a5 H5 u3 u4 s5 hT5 q3 q4 => ?_⟩
        refine ⟨a5, _, rfl, hT5, rfl, _, _, rfl, _, _, rfl, rfl, ?_⟩
        have s15 := s1.trans s5
        refine ⟨_, rfl, b, dx, _, rfl, s15 _ _ hb, rfl, _, rfl, b, dx, _, rfl, s15 _ _ hb, rfl, _, rfl, _, rfl, _, _, _, _, _, rfl, r1.same s15, q3, fun a6 H6 s6 q6 => ?_⟩
        have s56 := s5.trans s6
        have s16 := s1.trans s56
        refine ⟨_, rfl, b, dx, _, rfl, s16 _ _ hb, rfl, _, rfl, _, rfl, _, _, _, _, _, rfl, q4.same s6, q2.same s56, fun a7 H7 s7 q7 => ?_⟩
        exact ⟨_, _, _, _, _, rfl, q6.same s7, q7, fun a8 H8 s8 q8 => q a8 H8 (s16.trans (s7.trans s8)) q8⟩
    · rw [decide_eq_false (show ¬ ((t1.hgt : Int) + 1 < (t2.hgt : Int)) by omega)]
      refine iteF ?_
      refine ⟨_, rfl, a1, cStem, _, _, _, rfl, h1, T.k_Stem.cl, nH, stF_height, _, rfl, a2, cStem, _, _, _, rfl, h2, T.k_Stem.cl, nH, stF_height, _, _, rfl, rfl, _, _, rfl, rfl, _, rfl, ?_⟩
      by_cases c1 : t2.hgt + 1 < t1.hgt
      · obtain ⟨x, y, rfl⟩ := bal_tall b1 (by omega)
        have e0 : evenP (.pair x y) t2 = evL t2 (.pair x y) := (if_neg c).trans (if_pos c1)
        rw [e0] at q
        obtain ⟨bx, by_, e1, e2⟩ := bal_pair.mp b1
        rw [hgt_pair] at c1
        rw [decide_eq_true (show ((t2.hgt : Int) + 1 < ((x.pair y).hgt : Int)) by rw [hgt_pair]; omega)]
        refine iteT ?_
        refine ⟨_, rfl, b, dx, _, rfl, hb, rfl, _, rfl, _, _, x, y, rfl, r1, fun a H1 u1 u2 s1 hT q1 q2 => ?_⟩
        refine ⟨a, _, rfl, hT, rfl, _, _, rfl, _, _, rfl, rfl, ?_⟩
        obtain ⟨a3, x3, l3, s3, rfl, h3⟩ := q1.at_
        obtain ⟨a4, x4, l4, s4, rfl, h4⟩ := q2.at_
        refine ⟨_, rfl, a4, cStem, _, _, _, rfl, h4, T.k_Stem.cl, nH, stF_height, _, rfl, a3, cStem, _, _, _, rfl, h3, T.k_Stem.cl, nH, stF_height, _, _, rfl, rfl, _, rfl, ?_⟩
        by_cases c2 : y.hgt ≤ x.hgt
        · have e3 : evL t2 (.pair x y) = .pair x (.pair y t2) := if_pos c2
          rw [e3] at q
          rw [decide_eq_true (show ((y.hgt : Int) ≤ (x.hgt : Int)) by omega)]
          refine iteT ?_
          refine ⟨_, rfl, b, dx, _, rfl, s1 _ _ hb, rfl, _, rfl, _, rfl, b, dx, _, rfl, s1 _ _ hb, rfl, _, rfl, _, rfl, _, _, _, _, _, rfl, q2, r2.same s1, fun a5 H5 s5 q5 => ?_⟩
          refine ⟨_, _, _, _, _, rfl, q1.same s5, q5, fun a6 H6 s6 q6 => ?_⟩
          exact q a6 H6 (s1.trans (s5.trans s6)) q6
        · obtain ⟨m, n, rfl⟩ := bal_tall by_ (by omega)
          have e3 : evL t2 (.pair x (.pair m n)) = .pair (.pair x m) (.pair n t2) := if_neg c2
          rw [e3] at q
          rw [decide_eq_false (show ¬ (((m.pair n).hgt : Int) ≤ (x.hgt : Int)) by omega)]
          refine iteF ?_
          refine ⟨_, rfl, b, dx, _, rfl, s1 _ _ hb, rfl, _, rfl, _, _, m, n, rfl, q2, fun a5 H5 u3 u4 s5 hT5 q3 q4 => ?_⟩
          refine ⟨a5, _, rfl, hT5, rfl, _, _, rfl, _, _, rfl, rfl, ?_⟩
          have s15 := s1.trans s5
          refine ⟨_, rfl, b, dx, _, rfl, s15 _ _ hb, rfl, _, rfl, b, dx, _, rfl, s15 _ _ hb, rfl, _, rfl, _, rfl, _, _, _, _, _, rfl, q1.same s5, q3, fun a6 H6 s6 q6 => ?_⟩
          have s56 := s5.trans s6
          have s16 := s1.trans s56
          refine ⟨_, rfl, b, dx, _, rfl, s16 _ _ hb, rfl, _, rfl, _, rfl, _, _, _, _, _, rfl, q4.same s6, r2.same s16, fun a7 H7 s7 q7 => ?_⟩
          exact ⟨_, _, _, _, _, rfl, q6.same s7, q7, fun a8 H8 s8 q8 => q a8 H8 (s16.trans (s7.trans s8)) q8⟩
      · have e0 : evenP t1 t2 = .pair t1 t2 := (if_neg c).trans (if_neg c1)
        rw [e0] at q
        rw [decide_eq_false (show ¬ ((t2.hgt : Int) + 1 < (t1.hgt : Int)) by omega)]
        refine iteF ?_
        exact ⟨_, rfl, b, dx, _, rfl, hb, rfl, _, rfl, _, rfl, _, _, _, _, _, rfl, r1, r2, q⟩
end

section
variable {P : Program} {w : World} {K : PySem.W.Frag} {mg : Str → Option Value} {base : Heap} {cMatchError cBadShape cBadCount cBadBalance cStem cBuilder : Addr}
def spRowJoined (K : PySem.W.Frag) (C B : Addr) (n : Nat) : Sp := fun vs H Q _ => ∃ b dx l r p1 p2, vs = [.ref b, l, r] ∧ H b = some (.ins B dx []) ∧ StO C H l p1 ∧ StO C H r p2 ∧ BalO p1 ∧ BalO p2 ∧ hgtO p1 + hgtO p2 < n ∧
  ∀ u H', Same H H' → StO C H' u (joinFO n p1 p2) → Q u H'
theorem ok_row_joined (T : Top K mg cMatchError cBadShape cBadCount cBadBalance cStem cBuilder) : ∀ n, Cl P w K mg base (n + 4) "row_joined" ["builder", "left", "right"] (spRowJoined K cStem cBuilder n)
  | 0 => by
    exact T.d_row_joined.never fun vs H Q E h => by
      obtain ⟨b, dx, l, r, p1, p2, _, _, _, _, _, _, h, _⟩ := h
      omega
  | n + 1 => by
    have ih := ok_row_joined T n
    have c_even_pair := ok_even_pair (P := P) (w := w) (base := base) T
    have c_Builder_pair := ok_Builder_pair (P := P) (w := w) (base := base) T
    have c_Builder_sides := ok_Builder_sides (P := P) (w := w) (base := base) T
    have nH := T.k_Stem.no "height" (by simp)
    refine T.d_row_joined.ok sc_row_joined (fun vs H Q E h => ?_) (fun f cdv A outer s H vs Q E hr h => ?_)
    · obtain ⟨b, dx, l, r, t1, t2, rfl, _⟩ := h
      rfl
    · refine ⟨_, (pss_cons (ps_if (pt_cmpR op_isN (pv 1) pe_non (nomark _)) (pss_one (ps_ret (pv 2))) pss_nil)
      (pss_cons (ps_if (pt_cmpR op_isN (pv 2) pe_non (nomark _)) (pss_one (ps_ret (pv 1))) pss_nil)
      (pss_cons (ps_if (pt_cmpR op_gt (pe_fld (pv 1) rfl) (pe_op op_add (pe_fld (pv 2) rfl) pe_int) (nomark _)) (pss_cons (ps_asg (pmN c_Builder_sides T.k_Builder.cl hr (by omega) (pv 0) (pa_cons (pv 1) pa_nil)) (pg_tup rfl (pgs_cons (pg_name (i := 3) sc_row_joined.nd rfl (.inl rfl)) (pgs_cons (pg_name (i := 4) sc_row_joined.nd rfl (.inl rfl)) pgs_nil))))
      (pss_one (ps_ret (pcN c_even_pair hr (by omega) (pa_cons (pv 0) (pa_cons (pv 3) (pa_cons (pcN ih hr (Nat.le_refl _) (pa_cons (pv 0) (pa_cons (pv 4) (pa_cons (pv 2) pa_nil)))) pa_nil))))))) pss_nil)
      (pss_cons (ps_if (pt_cmpR op_gt (pe_fld (pv 2) rfl) (pe_op op_add (pe_fld (pv 1) rfl) pe_int) (nomark _)) (pss_cons (ps_asg (pmN c_Builder_sides T.k_Builder.cl hr (by omega) (pv 0) (pa_cons (pv 2) pa_nil)) (pg_tup rfl (pgs_cons (pg_name (i := 3) sc_row_joined.nd rfl (.inl rfl)) (pgs_cons (pg_name (i := 4) sc_row_joined.nd rfl (.inl rfl)) pgs_nil))))
      (pss_one (ps_ret (pcN c_even_pair hr (by omega) (pa_cons (pv 0) (pa_cons (pcN ih hr (Nat.le_refl _) (pa_cons (pv 0) (pa_cons (pv 1) (pa_cons (pv 3) pa_nil)))) (pa_cons (pv 4) pa_nil))))))) pss_nil)
      (pss_one (ps_ret (pmN c_Builder_pair T.k_Builder.cl hr (by omega) (pv 0) (pa_cons (pv 1) (pa_cons (pv 2) pa_nil))))))))), ?_⟩
      obtain ⟨b, dx, l, r, p1, p2, rfl, hb, r1, r2, b1, b2, hn, q⟩ := h
      rcases r1 with ⟨rfl, rfl⟩ | ⟨t1, rfl, r1⟩
      · exact ⟨_, rfl, rfl, _, rfl, iteT ⟨_, rfl, q _ H (Same.refl _) r2⟩⟩
      · obtain ⟨a1, x1, l1, s1, rfl, h1⟩ := r1.at_
        refine ⟨_, rfl, rfl, _, rfl, iteF ?_⟩
        rcases r2 with ⟨rfl, rfl⟩ | ⟨t2, rfl, r2⟩
        · exact ⟨_, rfl, rfl, _, rfl, iteT ⟨_, rfl, q _ H (Same.refl _) (.inr ⟨_, rfl, r1⟩)⟩⟩
        · obtain ⟨a2, x2, l2, s2, rfl, h2⟩ := r2.at_
          have b1 := b1 _ rfl
          have b2 := b2 _ rfl
          have hn : t1.hgt + t2.hgt < n + 1 := hn
          refine ⟨_, rfl, rfl, _, rfl, iteF ?_⟩
          refine ⟨_, rfl, a1, cStem, _, _, _, rfl, h1, T.k_Stem.cl, nH, stF_height, _, rfl, a2, cStem, _, _, _, rfl, h2, T.k_Stem.cl, nH, stF_height, _, _, rfl, rfl, _, _, rfl, rfl, _, rfl, ?_⟩
          have qq : ∀ a H', Same H H' → StAt cStem H' (.ref a) (joinF (n + 1) t1 t2) → Q (.ref a) H' := fun a H' s r => q _ H' s (.inr ⟨_, rfl, r⟩)
          by_cases c : t2.hgt + 1 < t1.hgt
          · obtain ⟨x, y, rfl⟩ := bal_tall b1 (by omega)
            have e0 : joinF (n + 1) (.pair x y) t2 = evenP x (joinF n y t2) := if_pos c
            rw [e0] at qq
            obtain ⟨bx, by_, e1, e2⟩ := bal_pair.mp b1
            rw [hgt_pair] at c hn
            rw [decide_eq_true (show ((t2.hgt : Int) + 1 < ((x.pair y).hgt : Int)) by rw [hgt_pair]; omega)]
            refine iteT ?_
            refine ⟨_, rfl, b, dx, _, rfl, hb, rfl, _, rfl, _, _, x, y, rfl, r1, fun a H1 u1 u2 s1 hT q1 q2 => ?_⟩
            refine ⟨a, _, rfl, hT, rfl, _, _, rfl, _, _, rfl, rfl, ?_⟩
            obtain ⟨i1, i2, i3, i4⟩ := joinF_ok n by_ b2 (by omega)
            refine ⟨_, rfl, _, rfl, _, rfl, _, rfl, _, rfl, b, dx, _, _, some y, some t2, rfl, s1 _ _ hb, .inr ⟨y, rfl, q2⟩, .inr ⟨t2, rfl, r2.same s1⟩, (fun t e => by cases e; exact by_), (fun t e => by cases e; exact b2), ?_, fun u H2 s2 z => ?_⟩
            · show y.hgt + t2.hgt < n
              omega
            · rcases z with ⟨_, z⟩ | ⟨t, e, z⟩
              · cases z
              · cases e
                refine ⟨b, dx, _, _, x, _, rfl, (s1.trans s2) _ _ hb, q1.same s2, z, bx, i1, by omega, by omega, fun a3 H3 s3 q3 => ?_⟩
                exact qq a3 H3 (s1.trans (s2.trans s3)) q3
          · rw [decide_eq_false (show ¬ ((t2.hgt : Int) + 1 < (t1.hgt : Int)) by omega)]
            refine iteF ?_
            refine ⟨_, rfl, a2, cStem, _, _, _, rfl, h2, T.k_Stem.cl, nH, stF_height, _, rfl, a1, cStem, _, _, _, rfl, h1, T.k_Stem.cl, nH, stF_height, _, _, rfl, rfl, _, _, rfl, rfl, _, rfl, ?_⟩
            by_cases c1 : t1.hgt + 1 < t2.hgt
            · obtain ⟨x, y, rfl⟩ := bal_tall b2 (by omega)
              have e0 : joinF (n + 1) t1 (.pair x y) = evenP (joinF n t1 x) y := (if_neg c).trans (if_pos c1)
              rw [e0] at qq
              obtain ⟨bx, by_, e1, e2⟩ := bal_pair.mp b2
              rw [hgt_pair] at c1 hn
              rw [decide_eq_true (show ((t1.hgt : Int) + 1 < ((x.pair y).hgt : Int)) by rw [hgt_pair]; omega)]
              refine iteT ?_
              refine ⟨_, rfl, b, dx, _, rfl, hb, rfl, _, rfl, _, _, x, y, rfl, r2, fun a H1 u1 u2 s1 hT q1 q2 => ?_⟩
              refine ⟨a, _, rfl, hT, rfl, _, _, rfl, _, _, rfl, rfl, ?_⟩
              obtain ⟨i1, i2, i3, i4⟩ := joinF_ok n b1 bx (by omega)
              refine ⟨_, rfl, _, rfl, _, rfl, _, rfl, b, dx, _, _, some t1, some x, rfl, s1 _ _ hb, .inr ⟨t1, rfl, r1.same s1⟩, .inr ⟨x, rfl, q1⟩, (fun t e => by cases e; exact b1), (fun t e => by cases e; exact bx), ?_, fun u H2 s2 z => ?_⟩
              · show t1.hgt + x.hgt < n
                omega
              · rcases z with ⟨_, z⟩ | ⟨t, e, z⟩
                · cases z
                · cases e
                  refine ⟨_, rfl, b, dx, _, _, _, y, rfl, (s1.trans s2) _ _ hb, z, q2.same s2, i1, by_, by omega, by omega, fun a3 H3 s3 q3 => ?_⟩
                  exact qq a3 H3 (s1.trans (s2.trans s3)) q3
            · have e0 : joinF (n + 1) t1 t2 = .pair t1 t2 := (if_neg c).trans (if_neg c1)
              rw [e0] at qq
              rw [decide_eq_false (show ¬ ((t1.hgt : Int) + 1 < (t2.hgt : Int)) by omega)]
              refine iteF ?_
              exact ⟨_, rfl, b, dx, _, rfl, hb, rfl, _, rfl, _, rfl, _, _, _, _, _, rfl, r1, r2, qq⟩
end

section
variable {P : Program} {w : World} {K : PySem.W.Frag} {mg : Str → Option Value} {base : Heap} {cMatchError cBadShape cBadCount cBadBalance cStem cBuilder : Addr}
def spJoined (K : PySem.W.Frag) (C D : Addr) : Sp := fun vs H Q E => ∃ v1 v2 t1 t2, vs = [v1, v2] ∧ RepTh K H v1 t1 ∧ RepTh K H v2 t2 ∧ (¬ t1.good → E (.ref C) none H) ∧ (t1.good → t1.isBal = false → E (.ref D) none H) ∧
  (t1.good → t1.isBal = true → ¬ t2.good → E (.ref C) none H) ∧ (t1.good → t1.isBal = true → t2.good → t2.isBal = false → E (.ref D) none H) ∧
  (t1.good → t1.isBal = true → t2.good → t2.isBal = true → 20000 < t1.wid + t2.wid → E (.ref D) none H) ∧
  (t1.good → t1.isBal = true → t2.good → t2.isBal = true → t1.wid + t2.wid ≤ 20000 → ∀ u H', Same H H' → RepTh K H' u (joinT t1 t2) → Q u H')
theorem ok_joined_shapes (T : Top K mg cMatchError cBadShape cBadCount cBadBalance cStem cBuilder) : Cl P w K mg base 58 "joined_shapes" ["shape", "other"] (spJoined K cBadShape cBadBalance) := by
  have c_need_balanced := ok_need_balanced (P := P) (w := w) (base := base) T
  have c_stem_of := ok_stem_of (P := P) (w := w) (base := base) T 41
  have c_row_joined := ok_row_joined (P := P) (w := w) (base := base) T 50
  have c_shape_of := ok_shape_of (P := P) (w := w) (base := base) T 51
  refine T.d_joined_shapes.ok sc_joined_shapes (fun vs H Q E h => ?_) (fun f cdv A outer s H vs Q E hr h => ?_)
  · obtain ⟨v1, v2, t1, t2, rfl, _⟩ := h
    rfl
  · refine ⟨_, (pss_cons (ps_set (i := 2) sc_joined_shapes.nd rfl (.inl rfl) (pcT c_need_balanced hr (by decide) (takes_of rfl rfl rfl rfl) (pa_cons (pv 0) pa_nil)))
      (pss_cons (ps_if (pt_cmpR op_gt (pe_op op_add (pv 2) (pcT c_need_balanced hr (by decide) (takes_of rfl rfl rfl rfl) (pa_cons (pv 1) pa_nil))) (C8.pe_gc (by rfl) T.v_MOST_NODES) (nomark _)) (pss_one (ps_raise rfl (takes_of rfl rfl rfl rfl) (pmk_own PySem.F.excBase_ValueError T.e_BadBalance.x T.e_BadBalance.g T.e_BadBalance.k (raises_own T.e_BadBalance.b T.e_BadBalance.t) (by rfl)))) pss_nil)
      (pss_one (ps_ret (pcN c_shape_of hr (by decide) (pa_cons (pcN c_row_joined hr (by decide) (pa_cons (pbare T.k_Builder T.b_Builder) (pa_cons (pcN c_stem_of hr (by decide) (pa_cons (pv 0) pa_nil)) (pa_cons (pcN c_stem_of hr (by decide) (pa_cons (pv 1) pa_nil)) pa_nil)))) pa_nil)))))), ?_⟩
    obtain ⟨v1, v2, t1, t2, rfl, r1, r2, q1, q2, q3, q4, q5, q6⟩ := h
    refine ⟨_, rfl, v1, t1, rfl, r1, fun g1 b1 => ?_, q1, q2⟩
    refine ⟨_, rfl, _, rfl, v2, t2, rfl, r2, fun g2 b2 => ?_, q3 g1 b1, q4 g1 b1⟩
    refine ⟨_, _, rfl, rfl, _, _, rfl, rfl, _, rfl, ?_⟩
    by_cases c : 20000 < t1.wid + t2.wid
    · rw [decide_eq_true (show ((20000 : Int) < (t1.wid : Int) + (t2.wid : Int)) by omega)]
      refine iteT ?_
      exact q5 g1 b1 g2 b2 c
    · rw [decide_eq_false (show ¬ ((20000 : Int) < (t1.wid : Int) + (t2.wid : Int)) by omega)]
      refine iteF ?_
      have h1 := bal_hgt b1 g1.2.2
      have h2 := bal_hgt b2 g2.2.2
      obtain ⟨i1, i2, i3, i4⟩ := joinF_ok 50 b1 b2 (by omega)
      refine fun b dx nb nd ne => ?_
      have S1 : Same H (upd (upd H dx (.own b)) b (.ins cBuilder dx [])) := same_upd2 nb (same_new nd)
      have hb : upd (upd H dx (.own b)) b (.ins cBuilder dx []) b = some (.ins cBuilder dx []) := upd_same
      generalize upd (upd H dx (.own b)) b (.ins cBuilder dx []) = H1 at S1 hb ⊢
      refine ⟨_, rfl, v1, t1, rfl, r1.keep (Keep.of S1), g1.1, by omega, fun a2 H2 s2 y1 => ?_⟩
      have S2 := S1.trans s2
      refine ⟨_, rfl, v2, t2, rfl, r2.keep (Keep.of S2), g2.1, by omega, fun a3 H3 s3 y2 => ?_⟩
      refine ⟨b, dx, _, _, some t1, some t2, rfl, (s2.trans s3) _ _ hb, .inr ⟨t1, rfl, y1.same s3⟩, .inr ⟨t2, rfl, y2⟩, (fun t e => by cases e; exact b1), (fun t e => by cases e; exact b2), ?_, fun u H4 s4 z => ?_⟩
      · show t1.hgt + t2.hgt < 50
        omega
      · rcases z with ⟨_, z⟩ | ⟨t, e, z⟩
        · cases z
        · cases e
          exact ⟨_, rfl, by decide, .inr ⟨_, z, by omega, fun u H5 s5 r5 => q6 g1 b1 g2 b2 (by omega) u H5 (S2.trans (s3.trans (s4.trans s5))) r5⟩⟩
end

section
variable {P : Program} {w : World} {K : PySem.W.Frag} {mg : Str → Option Value} {base : Heap} {cMatchError cBadShape cBadCount cBadBalance cStem cBuilder : Addr}
def spIsInteger (K : PySem.W.Frag) : Sp := fun vs H Q _ => ∃ v n, vs = [v] ∧ TyX K H v (.type n) ∧ n ∈ kinds ∧ Q (.bl (n == "int")) H
theorem ok_is_integer (T : Top K mg cMatchError cBadShape cBadCount cBadBalance cStem cBuilder) : Cl P w K mg base 1 "is_integer" ["thing"] (spIsInteger K) := by
  refine T.d_is_integer.ok sc_is_integer (fun vs H Q E h => ?_) (fun f cdv A outer s H vs Q E hr h => ?_)
  · obtain ⟨v, n, rfl, _⟩ := h
    rfl
  · refine ⟨_, (pss_one (ps_ret (pe_and (pe_callB call_isi (by rfl) T.n_isinstance (by decide +kernel) (pa_cons (pv 0) (pa_cons (pe_bltn (v := .ty "int") (by rfl) T.n_int (by decide +kernel) rfl) pa_nil))) (pe_one (pe_not (pe_callB call_isi (by rfl) T.n_isinstance (by decide +kernel) (pa_cons (pv 0) (pa_cons (pe_bltn (v := .ty "bool") (by rfl) T.n_bool (by decide +kernel) rfl) pa_nil)))))))), ?_⟩
    obtain ⟨v, n, rfl, ty, hn, q⟩ := h
    have k1 : PySem.W.kitOne K (.type n) (.type "int") = some (n == "int" || n == "bool") := by
      simp only [kinds, List.mem_cons, List.not_mem_nil, or_false] at hn
      rcases hn with rfl | rfl | rfl | rfl | rfl | rfl | rfl <;> exact kit_ty (by decide +kernel)
    have k2 : PySem.W.kitOne K (.type n) (.type "bool") = some (n == "bool") := by
      simp only [kinds, List.mem_cons, List.not_mem_nil, or_false] at hn
      rcases hn with rfl | rfl | rfl | rfl | rfl | rfl | rfl <;> exact kit_ty (by decide +kernel)
    refine ⟨_, rfl, _, _, _, _, _, rfl, .ty "int", ty, k1, _, rfl, ite2 (fun e => ?_) (fun e => ?_)⟩
    · refine ⟨_, rfl, _, _, _, _, _, rfl, .ty "bool", ty, k2, _, rfl, ?_⟩
      have e2 : (!(n == "bool")) = (n == "int") := by
        revert e
        simp only [kinds, List.mem_cons, List.not_mem_nil, or_false] at hn
        rcases hn with rfl | rfl | rfl | rfl | rfl | rfl | rfl <;> decide
      rw [e2]
      exact q
    · have e2 : (n == "int") = false := by
        revert e
        simp only [kinds, List.mem_cons, List.not_mem_nil, or_false] at hn
        rcases hn with rfl | rfl | rfl | rfl | rfl | rfl | rfl <;> decide
      rw [e2] at q
      exact q
end

section
variable {P : Program} {w : World} {K : PySem.W.Frag} {mg : Str → Option Value} {base : Heap} {cMatchError cBadShape cBadCount cBadBalance cStem cBuilder : Addr}
def spNeedCount (K : PySem.W.Frag) (C : Addr) : Sp := fun vs H Q E => ∃ v m n, vs = [v, .int m] ∧ TyX K H v (.type n) ∧ n ∈ kinds ∧
  ((∃ i, v = .int i ∧ 0 ≤ i ∧ i ≤ m) → Q .non H) ∧ ((¬ ∃ i, v = .int i ∧ 0 ≤ i ∧ i ≤ m) → E (.ref C) none H)
theorem ok_need_count (T : Top K mg cMatchError cBadShape cBadCount cBadBalance cStem cBuilder) : Cl P w K mg base 2 "need_count" ["thing", "most"] (spNeedCount K cBadCount) := by
  have c_is_integer := ok_is_integer (P := P) (w := w) (base := base) T
  refine T.d_need_count.ok sc_need_count (fun vs H Q E h => ?_) (fun f cdv A outer s H vs Q E hr h => ?_)
  · obtain ⟨v, m, n, rfl, _⟩ := h
    rfl
  · refine ⟨_, (pss_cons (ps_if (PW.pt (pw_or (pt_not (pt_val (pcN c_is_integer hr (by decide) (pa_cons (pv 0) pa_nil)))) (pw_or1 (pt_cmpR op_lt (pv 0) pe_int (nomark _))))) (pss_one (ps_raise rfl (takes_of rfl rfl rfl rfl) (pmk_own PySem.F.excBase_ValueError T.e_BadCount.x T.e_BadCount.g T.e_BadCount.k (raises_own T.e_BadCount.b T.e_BadCount.t) (by rfl)))) pss_nil)
      (pss_one (ps_if (PW.pt (pw_and (pt_cmpR op_notN (pv 1) pe_non (nomark _)) (pw_and1 (pt_cmpR op_gt (pv 0) (pv 1) (nomark _))))) (pss_one (ps_raise rfl (takes_of rfl rfl rfl rfl) (pmk_own PySem.F.excBase_ValueError T.e_BadCount.x T.e_BadCount.g T.e_BadCount.k (raises_own T.e_BadCount.b T.e_BadCount.t) (by rfl)))) pss_nil))), ?_⟩
    obtain ⟨v, m, n, rfl, ty, hn, qy, qn⟩ := h
    refine ⟨_, rfl, v, n, rfl, ty, hn, _, rfl, ?_⟩
    by_cases hi : n = "int"
    · subst hi
      obtain ⟨i, rfl⟩ : ∃ i, v = .int i := ty_int_inv ty
      refine ⟨_, rfl, _, _, rfl, rfl, _, rfl, ?_⟩
      refine ite2 (fun e => ?_) (fun e => ?_)
      · have e1 : i < 0 := of_decide_eq_true e
        refine qn ?_
        rintro ⟨j, hj, h1, h2⟩
        cases hj
        omega
      · have e1 : ¬ i < 0 := fun h => e (decide_eq_true h)
        refine ⟨_, rfl, rfl, _, rfl, ?_⟩
        refine ⟨_, rfl, _, rfl, _, _, rfl, rfl, _, rfl, ?_⟩
        refine ite2 (fun e => ?_) (fun e => ?_)
        · have e2 : m < i := of_decide_eq_true e
          refine qn ?_
          rintro ⟨j, hj, h1, h2⟩
          cases hj
          omega
        · have e2 : ¬ m < i := fun h => e (decide_eq_true h)
          exact qy ⟨i, rfl, by omega, by omega⟩
    · have hb : (n == "int") = false := by simpa using hi
      rw [hb]
      refine qn ?_
      rintro ⟨j, rfl, _⟩
      exact hi (ty_int_val ty)
end

section
variable {P : Program} {w : World} {K : PySem.W.Frag} {mg : Str → Option Value} {base : Heap} {cMatchError cBadShape cBadCount cBadBalance cStem cBuilder : Addr}
def spRowCut (K : PySem.W.Frag) (C B : Addr) (n : Nat) : Sp := fun vs H Q _ => ∃ b dx v t, ∃ m : Nat, vs = [.ref b, v, .int m] ∧ H b = some (.ins B dx []) ∧ StAt C H v t ∧ t.isBal = true ∧ t.wid ≤ 20000 ∧ m ≤ t.wid ∧ t.hgt < n ∧
  ∀ a u1 u2 H', Same H H' → SqT K H' a [u1, u2] → StO C H' u1 (cutT t m).1 → StO C H' u2 (cutT t m).2 → Q (.ref a) H'
theorem ok_row_cut (T : Top K mg cMatchError cBadShape cBadCount cBadBalance cStem cBuilder) : ∀ n, Cl P w K mg base (n + 55) "row_cut" ["builder", "tree", "many"] (spRowCut K cStem cBuilder n)
  | 0 => by
    exact T.d_row_cut.never fun vs H Q E h => by
      obtain ⟨b, dx, v, t, m, _, _, _, _, _, _, h, _⟩ := h
      omega
  | n + 1 => by
    have ih := ok_row_cut T n
    have c_row_joined := ok_row_joined (P := P) (w := w) (base := base) T 50
    have c_Builder_sides := ok_Builder_sides (P := P) (w := w) (base := base) T
    have nW := T.k_Stem.no "width" (by simp)
    refine T.d_row_cut.ok sc_row_cut (fun vs H Q E h => ?_) (fun f cdv A outer s H vs Q E hr h => ?_)
    · obtain ⟨b, dx, v, t, m, rfl, _⟩ := h
      rfl
    · refine ⟨_, (pss_cons (ps_if (pt_cmpR op_eq (pv 2) pe_int (nomark _)) (pss_one (ps_ret (pe_tup (pa_cons pe_non (pa_cons (pv 1) pa_nil))))) pss_nil)
      (pss_cons (ps_if (pt_cmpR op_eq (pv 2) (pe_fld (pv 1) rfl) (nomark _)) (pss_one (ps_ret (pe_tup (pa_cons (pv 1) (pa_cons pe_non pa_nil))))) pss_nil)
      (pss_cons (ps_asg (pmN c_Builder_sides T.k_Builder.cl hr (by omega) (pv 0) (pa_cons (pv 1) pa_nil)) (pg_tup rfl (pgs_cons (pg_name (i := 3) sc_row_cut.nd rfl (.inl rfl)) (pgs_cons (pg_name (i := 4) sc_row_cut.nd rfl (.inl rfl)) pgs_nil))))
      (pss_cons (ps_if (pt_cmpR op_le (pv 2) (pe_fld (pv 3) rfl) (nomark _)) (pss_cons (ps_asg (pcN ih hr (Nat.le_refl _) (pa_cons (pv 0) (pa_cons (pv 3) (pa_cons (pv 2) pa_nil)))) (pg_tup rfl (pgs_cons (pg_name (i := 5) sc_row_cut.nd rfl (.inl rfl)) (pgs_cons (pg_name (i := 6) sc_row_cut.nd rfl (.inl rfl)) pgs_nil))))
      (pss_one (ps_ret (pe_tup (pa_cons (pv 5) (pa_cons (pcN c_row_joined hr (by omega) (pa_cons (pv 0) (pa_cons (pv 6) (pa_cons (pv 4) pa_nil)))) pa_nil)))))) pss_nil)
      (pss_cons (ps_asg (pcN ih hr (Nat.le_refl _) (pa_cons (pv 0) (pa_cons (pv 4) (pa_cons (pe_op op_sub (pv 2) (pe_fld (pv 3) rfl)) pa_nil)))) (pg_tup rfl (pgs_cons (pg_name (i := 5) sc_row_cut.nd rfl (.inl rfl)) (pgs_cons (pg_name (i := 6) sc_row_cut.nd rfl (.inl rfl)) pgs_nil))))
      (pss_one (ps_ret (pe_tup (pa_cons (pcN c_row_joined hr (by omega) (pa_cons (pv 0) (pa_cons (pv 3) (pa_cons (pv 5) pa_nil)))) (pa_cons (pv 6) pa_nil)))))))))), ?_⟩
      obtain ⟨b, dx, v, t, m, rfl, hb, r, bt, hw, hm, hn, q⟩ := h
      have pair : ∀ (u1 u2 : V) (p1 p2 : Option Th) H1, Same H H1 → StO cStem H1 u1 p1 → StO cStem H1 u2 p2 → cutT t m = (p1, p2) → 2 ≤ sizeLine ∧ ∀ l, H1 l = none → Q (.ref l) (upd H1 l (.tup [u1, u2])) := fun u1 u2 p1 p2 H1 s1 o1 o2 e =>
        ⟨by decide, fun l nl => q l u1 u2 _ (s1.trans (same_new nl)) (sqT_of upd_same) (by rw [e]; exact o1.same (same_new nl)) (by rw [e]; exact o2.same (same_new nl))⟩
      refine ⟨_, rfl, rfl, _, rfl, ?_⟩
      by_cases c0 : m = 0
      · subst c0
        refine iteT ?_
        refine ⟨_, rfl, pair _ _ none (some t) H (Same.refl _) (.inl ⟨rfl, rfl⟩) (.inr ⟨t, rfl, r⟩) ?_⟩
        cases t with
        | one => rfl
        | other => cases bt
        | pair x y => exact if_pos rfl
      rw [decide_eq_false (show ¬ V.int (m : Int) = V.int 0 from fun z => c0 (by have := V.int.inj z; omega))]
      refine iteF ?_
      obtain ⟨a1, x1, l1, y1, rfl, h1⟩ := r.at_
      refine ⟨_, rfl, _, rfl, a1, cStem, _, _, _, rfl, h1, T.k_Stem.cl, nW, stF_width, rfl, _, rfl, ?_⟩
      by_cases c1 : m = t.wid
      · rw [decide_eq_true (show V.int (m : Int) = V.int (t.wid : Int) by rw [c1])]
        refine iteT ?_
        refine ⟨_, rfl, pair _ _ (some t) none H (Same.refl _) (.inr ⟨t, rfl, r⟩) (.inl ⟨rfl, rfl⟩) ?_⟩
        cases t with
        | one => exact if_neg c0
        | other => cases bt
        | pair x y => exact (if_neg c0).trans (if_pos c1)
      rw [decide_eq_false (show ¬ V.int (m : Int) = V.int (t.wid : Int) from fun z => c1 (by have := V.int.inj z; omega))]
      refine iteF ?_
      cases t with
      | one =>
        have : m ≤ 1 := hm
        have : m ≠ 1 := c1
        omega
      | other => cases bt
      | pair x y =>
        obtain ⟨bx, by_, e1, e2⟩ := bal_pair.mp bt
        rw [wid_pair] at hw hm c1
        rw [hgt_pair] at hn
        have px := bal_wid bx
        have py := bal_wid by_
        refine ⟨_, rfl, b, dx, _, rfl, hb, rfl, _, rfl, _, _, x, y, rfl, r, fun a H1 v1 v2 s1 hT q1 q2 => ?_⟩
        refine ⟨a, _, rfl, hT, rfl, _, _, rfl, _, _, rfl, rfl, ?_⟩
        obtain ⟨a3, x3, l3, s3, rfl, h3⟩ := q1.at_
        refine ⟨_, rfl, _, rfl, a3, cStem, _, _, _, rfl, h3, T.k_Stem.cl, nW, stF_width, _, _, rfl, rfl, _, rfl, ?_⟩
        by_cases c2 : m ≤ x.wid
        · rw [decide_eq_true (show (m : Int) ≤ (x.wid : Int) by omega)]
          refine iteT ?_
          obtain ⟨i1, i2⟩ := cutT_ok bx c2 (by omega)
          refine ⟨_, rfl, _, rfl, _, rfl, b, dx, _, x, m, rfl, s1 _ _ hb, q1, bx, by omega, c2, by omega, fun a4 u1 u2 H4 s4 hT4 o1 o2 => ?_⟩
          refine ⟨a4, _, rfl, hT4, rfl, _, _, rfl, _, _, rfl, rfl, ?_⟩
          have s14 := s1.trans s4
          refine ⟨_, rfl, _, rfl, _, rfl, _, rfl, b, dx, _, _, (cutT x m).2, some y, rfl, s14 _ _ hb, o2, .inr ⟨y, rfl, q2.same s4⟩, i2.bal, (fun t e => by cases e; exact by_), ?_, fun u H5 s5 z => ?_⟩
          · have := i2.hgt (by omega)
            have := bal_hgt by_ (by omega)
            show hgtO (cutT x m).2 + y.hgt < 50
            omega
          · rw [joinFO_joinO] at z
            exact pair _ _ _ _ H5 (s14.trans s5) (o1.same s5) z (((if_neg c0).trans (if_neg c1)).trans (if_pos c2))
        · rw [decide_eq_false (show ¬ (m : Int) ≤ (x.wid : Int) by omega)]
          refine iteF ?_
          have em : (m : Int) - (x.wid : Int) = ((m - x.wid : Nat) : Int) := by omega
          obtain ⟨i1, i2⟩ := cutT_ok by_ (show m - x.wid ≤ y.wid by omega) (by omega)
          refine ⟨_, rfl, _, rfl, _, rfl, _, rfl, a3, cStem, _, _, _, rfl, h3, T.k_Stem.cl, nW, stF_width, _, _, rfl, rfl, b, dx, _, y, m - x.wid, congrArg (fun z => [V.ref b, _, V.int z]) em, s1 _ _ hb, q2, by_, by omega, by omega, by omega, fun a4 u1 u2 H4 s4 hT4 o1 o2 => ?_⟩
          refine ⟨a4, _, rfl, hT4, rfl, _, _, rfl, _, _, rfl, rfl, ?_⟩
          have s14 := s1.trans s4
          refine ⟨_, rfl, _, rfl, _, rfl, b, dx, _, _, some x, (cutT y (m - x.wid)).1, rfl, s14 _ _ hb, .inr ⟨x, rfl, q1.same s4⟩, o1, (fun t e => by cases e; exact bx), i1.bal, ?_, fun u H5 s5 z => ?_⟩
          · have := i1.hgt (by omega)
            have := bal_hgt bx (by omega)
            show x.hgt + hgtO (cutT y (m - x.wid)).1 < 50
            omega
          · rw [joinFO_joinO] at z
            exact ⟨_, rfl, pair _ _ _ _ H5 (s14.trans s5) z (o2.same s5) (((if_neg c0).trans (if_neg c1)).trans (if_neg c2))⟩
end

section
variable {P : Program} {w : World} {K : PySem.W.Frag} {mg : Str → Option Value} {base : Heap} {cMatchError cBadShape cBadCount cBadBalance cStem cBuilder : Addr}
def spCutShape (K : PySem.W.Frag) (C D G : Addr) : Sp := fun vs H Q E => ∃ v x t n, vs = [v, x] ∧ RepTh K H v t ∧ TyX K H x (.type n) ∧ n ∈ kinds ∧ (¬ t.good → E (.ref C) none H) ∧ (t.good → t.isBal = false → E (.ref D) none H) ∧
  (t.good → t.isBal = true → (¬ ∃ i : Int, x = .int i ∧ 0 ≤ i ∧ i ≤ t.wid) → E (.ref G) none H) ∧
  (t.good → t.isBal = true → ∀ m : Nat, x = .int m → m ≤ t.wid → ∀ a u1 u2 H', Same H H' → SqT K H' a [u1, u2] → PartAt K H' u1 (cutT t m).1 → PartAt K H' u2 (cutT t m).2 → Q (.ref a) H')
theorem ok_cut_shape (T : Top K mg cMatchError cBadShape cBadCount cBadBalance cStem cBuilder) : Cl P w K mg base 77 "cut_shape" ["shape", "many"] (spCutShape K cBadShape cBadBalance cBadCount) := by
  have c_need_count := ok_need_count (P := P) (w := w) (base := base) T
  have c_need_balanced := ok_need_balanced (P := P) (w := w) (base := base) T
  have c_stem_of := ok_stem_of (P := P) (w := w) (base := base) T 41
  have c_row_cut := ok_row_cut (P := P) (w := w) (base := base) T 21
  have c_shape_ofP := ok_shape_ofP (P := P) (w := w) (base := base) T 51
  refine T.d_cut_shape.ok sc_cut_shape (fun vs H Q E h => ?_) (fun f cdv A outer s H vs Q E hr h => ?_)
  · obtain ⟨v, x, t, n, rfl, _⟩ := h
    rfl
  · refine ⟨_, (pss_cons (ps_expr (pcT c_need_count hr (by decide) (takes_of rfl rfl rfl rfl) (pa_cons (pv 1) (pa_cons (pcT c_need_balanced hr (by decide) (takes_of rfl rfl rfl rfl) (pa_cons (pv 0) pa_nil)) pa_nil))))
      (pss_cons (ps_asg (pcN c_row_cut hr (by decide) (pa_cons (pbare T.k_Builder T.b_Builder) (pa_cons (pcN c_stem_of hr (by decide) (pa_cons (pv 0) pa_nil)) (pa_cons (pv 1) pa_nil)))) (pg_tup rfl (pgs_cons (pg_name (i := 2) sc_cut_shape.nd rfl (.inl rfl)) (pgs_cons (pg_name (i := 3) sc_cut_shape.nd rfl (.inl rfl)) pgs_nil))))
      (pss_one (ps_ret (pe_tup (pa_cons (pcN c_shape_ofP hr (by decide) (pa_cons (pv 2) pa_nil)) (pa_cons (pcN c_shape_ofP hr (by decide) (pa_cons (pv 3) pa_nil)) pa_nil))))))), ?_⟩
    obtain ⟨v, x, t, n, rfl, r, ty, hn, q1, q2, q3, q4⟩ := h
    refine ⟨_, rfl, _, rfl, v, t, rfl, r, fun g bt => ?_, q1, q2⟩
    refine ⟨x, _, n, rfl, ty, hn, ?_, q3 g bt⟩
    rintro ⟨i, rfl, i0, i1⟩
    obtain ⟨m, rfl⟩ : ∃ m : Nat, i = m := ⟨i.toNat, by omega⟩
    have q4 := q4 g bt m rfl (by omega)
    have hw := g.2.2
    have hh := bal_hgt bt hw
    refine fun b dx nb nd ne => ?_
    have S1 : Same H (upd (upd H dx (.own b)) b (.ins cBuilder dx [])) := same_upd2 nb (same_new nd)
    have hb : upd (upd H dx (.own b)) b (.ins cBuilder dx []) b = some (.ins cBuilder dx []) := upd_same
    generalize upd (upd H dx (.own b)) b (.ins cBuilder dx []) = H1 at S1 hb ⊢
    refine ⟨_, rfl, v, t, rfl, r.keep (Keep.of S1), g.1, by omega, fun a2 H2 s2 y1 => ?_⟩
    have S2 := S1.trans s2
    obtain ⟨o1, o2⟩ := cutT_ok bt (show m ≤ t.wid by omega) (by omega)
    refine ⟨_, rfl, b, dx, _, t, m, rfl, s2 _ _ hb, y1, bt, hw, by omega, by omega, fun a u1 u2 H3 s3 hT z1 z2 => ?_⟩
    refine ⟨a, _, rfl, hT, rfl, _, _, rfl, _, _, rfl, rfl, ?_⟩
    have S3 := S2.trans s3
    refine ⟨_, rfl, u1, _, rfl, z1, Nat.lt_of_le_of_lt (o1.hgt (by omega)) (by decide), fun w1 H4 s4 p1 => ?_⟩
    refine ⟨_, rfl, u2, _, rfl, z2.same s4, Nat.lt_of_le_of_lt (o2.hgt (by omega)) (by decide), fun w2 H5 s5 p2 => ?_⟩
    refine ⟨by show 2 ≤ sizeLine; decide, fun l nl => ?_⟩
    have S6 := same_new (o := .tup [w1, w2]) nl
    exact q4 l w1 w2 _ (S3.trans (s4.trans (s5.trans S6))) (sqT_of upd_same) ((p1.same s5).same S6) (p2.same S6)
end

section
variable {P : Program} {w : World} {K : PySem.W.Frag} {mg : Str → Option Value} {base : Heap} {cMatchError cBadShape cBadCount cBadBalance cStem cBuilder : Addr}
def spRowWith (K : PySem.W.Frag) (C B : Addr) (n : Nat) : Sp := fun vs H Q _ => ∃ b dx v c p, ∃ m : Nat, vs = [.ref b, v, .int m, c] ∧ 0 < n ∧ H b = some (.ins B dx []) ∧ StO C H v p ∧ BalO p ∧ hgtO p < n ∧ StAt C H c .one ∧
  ∀ a H', Same H H' → StAt C H' (.ref a) (match p with | none => .one | some t => withT t m) → Q (.ref a) H'
theorem ok_row_with (T : Top K mg cMatchError cBadShape cBadCount cBadBalance cStem cBuilder) : ∀ n, Cl P w K mg base (n + 4) "row_with" ["builder", "tree", "place", "child"] (spRowWith K cStem cBuilder n)
  | 0 => by
    exact T.d_row_with.never fun vs H Q E h => by
      obtain ⟨b, dx, v, c, p, m, _, h, _⟩ := h
      omega
  | n + 1 => by
    have ih := ok_row_with T n
    have c_even_pair := ok_even_pair (P := P) (w := w) (base := base) T
    have c_Builder_pair := ok_Builder_pair (P := P) (w := w) (base := base) T
    have c_Builder_sides := ok_Builder_sides (P := P) (w := w) (base := base) T
    have nW := T.k_Stem.no "width" (by simp)
    have nH := T.k_Stem.no "height" (by simp)
    refine T.d_row_with.ok sc_row_with (fun vs H Q E h => ?_) (fun f cdv A outer s H vs Q E hr h => ?_)
    · obtain ⟨b, dx, v, c, p, m, rfl, _⟩ := h
      rfl
    · refine ⟨_, (pss_cons (ps_if (pt_cmpR op_isN (pv 1) pe_non (nomark _)) (pss_one (ps_ret (pv 3))) pss_nil)
      (pss_cons (ps_if (pt_cmpR op_eq (pe_fld (pv 1) rfl) pe_int (nomark _)) (pss_one (ps_ret (pe_ifExp (pt_cmpR op_eq (pv 2) pe_int (nomark _)) (pmN c_Builder_pair T.k_Builder.cl hr (by omega) (pv 0) (pa_cons (pv 3) (pa_cons (pv 1) pa_nil))) (pmN c_Builder_pair T.k_Builder.cl hr (by omega) (pv 0) (pa_cons (pv 1) (pa_cons (pv 3) pa_nil)))))) pss_nil)
      (pss_cons (ps_asg (pmN c_Builder_sides T.k_Builder.cl hr (by omega) (pv 0) (pa_cons (pv 1) pa_nil)) (pg_tup rfl (pgs_cons (pg_name (i := 4) sc_row_with.nd rfl (.inl rfl)) (pgs_cons (pg_name (i := 5) sc_row_with.nd rfl (.inl rfl)) pgs_nil))))
      (pss_cons (ps_if (pt_cmpR op_le (pv 2) (pe_fld (pv 4) rfl) (nomark _)) (pss_one (ps_ret (pcN c_even_pair hr (by omega) (pa_cons (pv 0) (pa_cons (pcN ih hr (Nat.le_refl _) (pa_cons (pv 0) (pa_cons (pv 4) (pa_cons (pv 2) (pa_cons (pv 3) pa_nil))))) (pa_cons (pv 5) pa_nil)))))) pss_nil)
      (pss_one (ps_ret (pcN c_even_pair hr (by omega) (pa_cons (pv 0) (pa_cons (pv 4) (pa_cons (pcN ih hr (Nat.le_refl _) (pa_cons (pv 0) (pa_cons (pv 5) (pa_cons (pe_op op_sub (pv 2) (pe_fld (pv 4) rfl)) (pa_cons (pv 3) pa_nil))))) pa_nil)))))))))), ?_⟩
      obtain ⟨b, dx, v, c, p, m, rfl, _, hb, r, bt, hn, rc, q⟩ := h
      rcases r with ⟨rfl, rfl⟩ | ⟨t, rfl, r⟩
      · obtain ⟨ac, _, _, _, rfl, _⟩ := rc.at_
        exact ⟨_, rfl, rfl, _, rfl, iteT ⟨_, rfl, q ac H (Same.refl _) rc⟩⟩
      have bt := bt t rfl
      have hn : t.hgt < n + 1 := hn
      obtain ⟨a1, x1, l1, y1, rfl, h1⟩ := r.at_
      refine ⟨_, rfl, rfl, _, rfl, iteF ?_⟩
      refine ⟨_, rfl, a1, cStem, _, _, _, rfl, h1, T.k_Stem.cl, nH, stF_height, rfl, _, rfl, ?_⟩
      cases t with
      | other => cases bt
      | one =>
        refine iteT ?_
        refine ⟨_, rfl, rfl, _, rfl, ite2 (fun _ => ?_) (fun _ => ?_)⟩
        · exact ⟨_, rfl, b, dx, _, rfl, hb, rfl, _, rfl, _, rfl, _, _, _, .one, .one, rfl, rc, r, q⟩
        · exact ⟨_, rfl, b, dx, _, rfl, hb, rfl, _, rfl, _, rfl, _, _, _, .one, .one, rfl, r, rc, q⟩
      | pair x y =>
        obtain ⟨bx, by_, e1, e2⟩ := bal_pair.mp bt
        rw [hgt_pair] at hn
        rw [decide_eq_false (show ¬ V.int (((x.pair y).hgt : Nat) : Int) = V.int 0 from fun z => by have := V.int.inj z; rw [hgt_pair] at this; omega)]
        refine iteF ?_
        refine ⟨_, rfl, b, dx, _, rfl, hb, rfl, _, rfl, _, _, x, y, rfl, r, fun a H1 v1 v2 s1 hT q1 q2 => ?_⟩
        refine ⟨a, _, rfl, hT, rfl, _, _, rfl, _, _, rfl, rfl, ?_⟩
        obtain ⟨a3, x3, l3, s3, rfl, h3⟩ := q1.at_
        refine ⟨_, rfl, _, rfl, a3, cStem, _, _, _, rfl, h3, T.k_Stem.cl, nW, stF_width, _, _, rfl, rfl, _, rfl, ?_⟩
        by_cases c2 : m ≤ x.wid
        · rw [decide_eq_true (show (m : Int) ≤ (x.wid : Int) by omega)]
          refine iteT ?_
          have eq : withT (.pair x y) m = evenP (withT x m) y := if_pos c2
          obtain ⟨i1, i2, i3, i4⟩ := withT_ok (p := m) bx
          refine ⟨_, rfl, _, rfl, _, rfl, _, rfl, _, rfl, b, dx, _, _, some x, m, rfl, by omega, s1 _ _ hb, .inr ⟨x, rfl, q1⟩, (fun t e => by cases e; exact bx), (show x.hgt < n by omega), rc.same s1, fun a4 H4 s4 z4 => ?_⟩
          have s14 := s1.trans s4
          refine ⟨_, rfl, b, dx, _, _, _, y, rfl, s14 _ _ hb, z4, q2.same s4, i1, by_, by show (withT x m).hgt ≤ _; omega, by show _ ≤ (withT x m).hgt + 2; omega, fun a5 H5 s5 z5 => ?_⟩
          exact q a5 H5 (s14.trans s5) (by show StAt _ _ _ (withT (.pair x y) m); rw [eq]; exact z5)
        · rw [decide_eq_false (show ¬ (m : Int) ≤ (x.wid : Int) by omega)]
          refine iteF ?_
          have em : (m : Int) - (x.wid : Int) = ((m - x.wid : Nat) : Int) := by omega
          have eq : withT (.pair x y) m = evenP x (withT y (m - x.wid)) := if_neg c2
          obtain ⟨i1, i2, i3, i4⟩ := withT_ok (p := m - x.wid) by_
          refine ⟨_, rfl, _, rfl, _, rfl, _, rfl, _, rfl, _, rfl, a3, cStem, _, _, _, rfl, h3, T.k_Stem.cl, nW, stF_width, _, _, rfl, rfl, _, rfl, b, dx, _, _, some y, m - x.wid, congrArg (fun z => [V.ref b, _, V.int z, c]) em, by omega, s1 _ _ hb, .inr ⟨y, rfl, q2⟩, (fun t e => by cases e; exact by_), (show y.hgt < n by omega), rc.same s1, fun a4 H4 s4 z4 => ?_⟩
          have s14 := s1.trans s4
          refine ⟨b, dx, _, _, x, _, rfl, s14 _ _ hb, q1.same s4, z4, bx, i1, by show _ ≤ (withT y (m - x.wid)).hgt + 2; omega, by show (withT y (m - x.wid)).hgt ≤ _; omega, fun a5 H5 s5 z5 => ?_⟩
          exact q a5 H5 (s14.trans s5) (by show StAt _ _ _ (withT (.pair x y) m); rw [eq]; exact z5)
end

section
variable {P : Program} {w : World} {K : PySem.W.Frag} {mg : Str → Option Value} {base : Heap} {cMatchError cBadShape cBadCount cBadBalance cStem cBuilder : Addr}
def spPutShape (K : PySem.W.Frag) (C D G : Addr) : Sp := fun vs H Q E => ∃ v x n em t, vs = [v, x] ∧ RepTh K H v t ∧ EmpQ K H v em ∧ TyX K H x (.type n) ∧ n ∈ kinds ∧
  (em = true → (¬ x = .int 0) → ∀ H', Same H H' → E (.ref G) none H') ∧ (em = true → x = .int 0 → ∀ u H', Same H H' → RepTh K H' u .one → Q u H') ∧
  (em = false → ¬ t.good → ∀ H', Same H H' → E (.ref C) none H') ∧ (em = false → t.good → t.isBal = false → ∀ H', Same H H' → E (.ref D) none H') ∧
  (em = false → t.good → t.isBal = true → (¬ ∃ i : Int, x = .int i ∧ 0 ≤ i ∧ i ≤ t.wid) → ∀ H', Same H H' → E (.ref G) none H') ∧
  (em = false → t.good → t.isBal = true → (∃ i : Int, x = .int i ∧ 0 ≤ i ∧ i ≤ t.wid) → t.wid = 20000 → ∀ H', Same H H' → E (.ref D) none H') ∧
  (em = false → t.good → t.isBal = true → ∀ m : Nat, x = .int m → m ≤ t.wid → t.wid ≠ 20000 → ∀ u H', Same H H' → RepTh K H' u (withT t m) → Q u H')
theorem ok_put_shape (T : Top K mg cMatchError cBadShape cBadCount cBadBalance cStem cBuilder) : Cl P w K mg base 77 "put_shape" ["shape", "place"] (spPutShape K cBadShape cBadBalance cBadCount) := by
  have c_need_count := ok_need_count (P := P) (w := w) (base := base) T
  have c_need_balanced := ok_need_balanced (P := P) (w := w) (base := base) T
  have c_stem_of := ok_stem_of (P := P) (w := w) (base := base) T 41
  have c_row_with := ok_row_with (P := P) (w := w) (base := base) T 22
  have c_shape_ofP := ok_shape_ofP (P := P) (w := w) (base := base) T 51
  refine T.d_put_shape.ok sc_put_shape (fun vs H Q E h => ?_) (fun f cdv A outer s H vs Q E hr h => ?_)
  · obtain ⟨v, x, n, em, t, rfl, _⟩ := h
    rfl
  · refine ⟨_, (pss_cons (ps_set (i := 2) sc_put_shape.nd rfl (.inl rfl) (pe_ifExp (pt_cmpR (op_eqE hr.units) (pv 0) (pe_tup pa_nil) (nomark _)) pe_int (pcT c_need_balanced hr (by decide) (takes_of rfl rfl rfl rfl) (pa_cons (pv 0) pa_nil))))
      (pss_cons (ps_expr (pcT c_need_count hr (by decide) (takes_of rfl rfl rfl rfl) (pa_cons (pv 1) (pa_cons (pv 2) pa_nil))))
      (pss_cons (ps_if (pt_cmpR op_eq (pv 2) (C8.pe_gc (by rfl) T.v_MOST_NODES) (nomark _)) (pss_one (ps_raise rfl (takes_of rfl rfl rfl rfl) (pmk_own PySem.F.excBase_ValueError T.e_BadBalance.x T.e_BadBalance.g T.e_BadBalance.k (raises_own T.e_BadBalance.b T.e_BadBalance.t) (by rfl)))) pss_nil)
      (pss_cons (ps_set (i := 3) sc_put_shape.nd rfl (.inl rfl) (pe_ifExp (pt_cmpR (op_eqE hr.units) (pv 0) (pe_tup pa_nil) (nomark _)) pe_non (pcN c_stem_of hr (by decide) (pa_cons (pv 0) pa_nil))))
      (pss_one (ps_ret (pcN c_shape_ofP hr (by decide) (pa_cons (pcN c_row_with hr (by decide) (pa_cons (pbare T.k_Builder T.b_Builder) (pa_cons (pv 3) (pa_cons (pv 1) (pa_cons (pcN c_stem_of hr (by decide) (pa_cons pe_non pa_nil)) pa_nil))))) pa_nil)))))))), ?_⟩
    obtain ⟨v, x, n, em, t, rfl, r, hem, ty, hn, qa, qb, q1, q2, q3, q4, q5⟩ := h
    refine ⟨_, rfl, by show 0 ≤ sizeLine; decide, fun l nl => ?_⟩
    have S0 := same_new (o := .tup []) nl
    have hl : SqT K (upd H l (.tup [])) l [] := sqT_of upd_same
    generalize upd H l (.tup []) = H0 at S0 hl ⊢
    cases em with
    | true =>
      refine ⟨l, true, rfl, hl, hem.keep (Keep.of S0), _, rfl, iteT ?_⟩
      by_cases hx : x = .int 0
      · subst hx
        refine ⟨_, rfl, _, rfl, .int 0, 0, "int", rfl, ty_int _, by decide, fun _ => ?_, fun z => (z ⟨0, rfl, by decide, by decide⟩).elim⟩
        refine ⟨_, rfl, rfl, _, rfl, iteF ?_⟩
        refine ⟨_, rfl, by show 0 ≤ sizeLine; decide, fun l2 nl2 => ?_⟩
        have S2 := same_new (o := .tup []) nl2
        have hl2 : SqT K (upd H0 l2 (.tup [])) l2 [] := sqT_of upd_same
        generalize upd H0 l2 (.tup []) = H1 at S2 hl2 ⊢
        refine ⟨l2, true, rfl, hl2, hem.keep (Keep.of (S0.trans S2)), _, rfl, iteT ?_⟩
        refine fun b dx nb nd ne => ?_
        have S1 : Same H1 (upd (upd H1 dx (.own b)) b (.ins cBuilder dx [])) := same_upd2 nb (same_new nd)
        have hb : upd (upd H1 dx (.own b)) b (.ins cBuilder dx []) b = some (.ins cBuilder dx []) := upd_same
        generalize upd (upd H1 dx (.own b)) b (.ins cBuilder dx []) = H2 at S1 hb ⊢
        refine ⟨_, rfl, _, rfl, .non, .one, rfl, .one, rfl, by decide, fun a3 H3 s3 y3 => ?_⟩
        refine ⟨b, dx, _, _, none, 0, rfl, by decide, s3 _ _ hb, .inl ⟨rfl, rfl⟩, (fun t e => by cases e), by decide, y3, fun a4 H4 s4 y4 => ?_⟩
        refine ⟨_, some .one, rfl, .inr ⟨_, rfl, y4⟩, by decide, fun u H5 s5 z => ?_⟩
        rcases z with ⟨e, _⟩ | ⟨t', e, z⟩
        · cases e
        · cases e
          exact qb rfl rfl u H5 (S0.trans (S2.trans (S1.trans (s3.trans (s4.trans s5))))) z
      · refine ⟨_, rfl, _, rfl, x, 0, n, rfl, (Keep.of S0).ty ty, hn, fun ⟨i, e, h1, h2⟩ => (hx (by rw [e, show i = 0 by omega])).elim, fun _ => qa rfl hx H0 S0⟩
    | false =>
      refine ⟨l, false, rfl, hl, hem.keep (Keep.of S0), _, rfl, iteF ?_⟩
      refine ⟨_, rfl, v, t, rfl, r.keep (Keep.of S0), fun g bt => ?_, fun ng => q1 rfl ng H0 S0, fun g bt => q2 rfl g bt H0 S0⟩
      refine ⟨_, rfl, _, rfl, x, _, n, rfl, (Keep.of S0).ty ty, hn, fun hc => ?_, fun nc => q3 rfl g bt nc H0 S0⟩
      refine ⟨_, rfl, rfl, _, rfl, ?_⟩
      by_cases c : t.wid = 20000
      · rw [decide_eq_true (show V.int (t.wid : Int) = V.int 20000 by rw [c]; rfl)]
        exact iteT (q4 rfl g bt hc c H0 S0)
      · rw [decide_eq_false (show ¬ V.int (t.wid : Int) = V.int 20000 from fun z => c (by have := V.int.inj z; omega))]
        refine iteF ?_
        obtain ⟨i, rfl, i0, i1⟩ := hc
        obtain ⟨m, rfl⟩ : ∃ m : Nat, i = m := ⟨i.toNat, by omega⟩
        have q5 := q5 rfl g bt m rfl (by omega) c
        have hh := bal_hgt bt g.2.2
        refine ⟨_, rfl, by show 0 ≤ sizeLine; decide, fun l2 nl2 => ?_⟩
        have S2 := same_new (o := .tup []) nl2
        have hl2 : SqT K (upd H0 l2 (.tup [])) l2 [] := sqT_of upd_same
        generalize upd H0 l2 (.tup []) = H1 at S2 hl2 ⊢
        refine ⟨l2, false, rfl, hl2, hem.keep (Keep.of (S0.trans S2)), _, rfl, iteF ?_⟩
        refine ⟨_, rfl, v, t, rfl, r.keep (Keep.of (S0.trans S2)), g.1, by omega, fun a2 H2 s2 y1 => ?_⟩
        refine fun b dx nb nd ne => ?_
        have S1 : Same H2 (upd (upd H2 dx (.own b)) b (.ins cBuilder dx [])) := same_upd2 nb (same_new nd)
        have hb : upd (upd H2 dx (.own b)) b (.ins cBuilder dx []) b = some (.ins cBuilder dx []) := upd_same
        generalize upd (upd H2 dx (.own b)) b (.ins cBuilder dx []) = H3 at S1 hb ⊢
        refine ⟨_, rfl, _, rfl, .non, .one, rfl, .one, rfl, by decide, fun a3 H4 s3 y3 => ?_⟩
        obtain ⟨w1, w2, w3, w4⟩ := withT_ok (p := m) bt
        refine ⟨b, dx, _, _, some t, m, rfl, by decide, s3 _ _ hb, .inr ⟨t, rfl, (y1.same S1).same s3⟩, (fun t' e => by cases e; exact bt), (show t.hgt < 22 by omega), y3, fun a4 H5 s4 y4 => ?_⟩
        refine ⟨_, some (withT t m), rfl, .inr ⟨_, rfl, y4⟩, (show (withT t m).hgt < 51 by omega), fun u H6 s5 z => ?_⟩
        rcases z with ⟨e, _⟩ | ⟨t', e, z⟩
        · cases e
        · cases e
          exact q5 u H6 (S0.trans (S2.trans (s2.trans (S1.trans (s3.trans (s4.trans s5)))))) z
end

section
variable {P : Program} {w : World} {K : PySem.W.Frag} {mg : Str → Option Value} {base : Heap} {cMatchError cBadShape cBadCount cBadBalance cStem cBuilder : Addr}
def spRowWithout (K : PySem.W.Frag) (C B : Addr) (n : Nat) : Sp := fun vs H Q _ => ∃ b dx v t, ∃ m : Nat, vs = [.ref b, v, .int m] ∧ H b = some (.ins B dx []) ∧ StAt C H v t ∧ t.isBal = true ∧ t.hgt < n ∧
  ∀ u H', Same H H' → StO C H' u (lessT t m) → Q u H'
theorem ok_row_without (T : Top K mg cMatchError cBadShape cBadCount cBadBalance cStem cBuilder) : ∀ n, Cl P w K mg base (n + 4) "row_without" ["builder", "tree", "place"] (spRowWithout K cStem cBuilder n)
  | 0 => by
    exact T.d_row_without.never fun vs H Q E h => by
      obtain ⟨b, dx, v, t, m, _, _, _, _, h, _⟩ := h
      omega
  | n + 1 => by
    have ih := ok_row_without T n
    have c_even_pair := ok_even_pair (P := P) (w := w) (base := base) T
    have c_Builder_sides := ok_Builder_sides (P := P) (w := w) (base := base) T
    have nW := T.k_Stem.no "width" (by simp)
    have nH := T.k_Stem.no "height" (by simp)
    refine T.d_row_without.ok sc_row_without (fun vs H Q E h => ?_) (fun f cdv A outer s H vs Q E hr h => ?_)
    · obtain ⟨b, dx, v, t, m, rfl, _⟩ := h
      rfl
    · refine ⟨_, (pss_cons (ps_if (pt_cmpR op_eq (pe_fld (pv 1) rfl) pe_int (nomark _)) (pss_one (ps_ret pe_non)) pss_nil)
      (pss_cons (ps_asg (pmN c_Builder_sides T.k_Builder.cl hr (by omega) (pv 0) (pa_cons (pv 1) pa_nil)) (pg_tup rfl (pgs_cons (pg_name (i := 3) sc_row_without.nd rfl (.inl rfl)) (pgs_cons (pg_name (i := 4) sc_row_without.nd rfl (.inl rfl)) pgs_nil))))
      (pss_cons (ps_if (pt_cmpR op_lt (pv 2) (pe_fld (pv 3) rfl) (nomark _)) (pss_cons (ps_set (i := 5) sc_row_without.nd rfl (.inl rfl) (pcN ih hr (Nat.le_refl _) (pa_cons (pv 0) (pa_cons (pv 3) (pa_cons (pv 2) pa_nil)))))
      (pss_one (ps_ret (pe_ifExp (pt_cmpR op_isN (pv 5) pe_non (nomark _)) (pv 4) (pcN c_even_pair hr (by omega) (pa_cons (pv 0) (pa_cons (pv 5) (pa_cons (pv 4) pa_nil)))))))) pss_nil)
      (pss_cons (ps_set (i := 5) sc_row_without.nd rfl (.inl rfl) (pcN ih hr (Nat.le_refl _) (pa_cons (pv 0) (pa_cons (pv 4) (pa_cons (pe_op op_sub (pv 2) (pe_fld (pv 3) rfl)) pa_nil)))))
      (pss_one (ps_ret (pe_ifExp (pt_cmpR op_isN (pv 5) pe_non (nomark _)) (pv 3) (pcN c_even_pair hr (by omega) (pa_cons (pv 0) (pa_cons (pv 3) (pa_cons (pv 5) pa_nil))))))))))), ?_⟩
      obtain ⟨b, dx, v, t, m, rfl, hb, r, bt, hn, q⟩ := h
      obtain ⟨a1, x1, l1, y1, rfl, h1⟩ := r.at_
      refine ⟨_, rfl, a1, cStem, _, _, _, rfl, h1, T.k_Stem.cl, nH, stF_height, rfl, _, rfl, ?_⟩
      cases t with
      | other => cases bt
      | one =>
        refine iteT ?_
        exact q .non H (Same.refl _) (.inl ⟨rfl, rfl⟩)
      | pair x y =>
        obtain ⟨bx, by_, e1, e2⟩ := bal_pair.mp bt
        rw [hgt_pair] at hn
        rw [decide_eq_false (show ¬ V.int (((x.pair y).hgt : Nat) : Int) = V.int 0 from fun z => by have := V.int.inj z; rw [hgt_pair] at this; omega)]
        refine iteF ?_
        refine ⟨_, rfl, b, dx, _, rfl, hb, rfl, _, rfl, _, _, x, y, rfl, r, fun a H1 v1 v2 s1 hT q1 q2 => ?_⟩
        refine ⟨a, _, rfl, hT, rfl, _, _, rfl, _, _, rfl, rfl, ?_⟩
        obtain ⟨a3, x3, l3, s3, rfl, h3⟩ := q1.at_
        refine ⟨_, rfl, _, rfl, a3, cStem, _, _, _, rfl, h3, T.k_Stem.cl, nW, stF_width, _, _, rfl, rfl, _, rfl, ?_⟩
        by_cases c2 : m < x.wid
        · rw [decide_eq_true (show (m : Int) < (x.wid : Int) by omega)]
          refine iteT ?_
          have eq : lessT (.pair x y) m = (match lessT x m with | none => some y | some t => some (evenP t y)) := if_pos c2
          refine ⟨_, rfl, _, rfl, _, rfl, b, dx, _, x, m, rfl, s1 _ _ hb, q1, bx, by omega, fun u H4 s4 z4 => ?_⟩
          have s14 := s1.trans s4
          rcases lessT_ok (p := m) bx with ⟨i1, i2, i3⟩ | ⟨t, i1, i2, i3, i4, i5⟩
          · rw [i1] at z4 eq
            rcases z4 with ⟨rfl, _⟩ | ⟨_, e, _⟩
            · refine ⟨_, rfl, rfl, _, rfl, iteT ⟨_, rfl, ?_⟩⟩
              exact q _ H4 s14 (.inr ⟨y, eq, q2.same s4⟩)
            · cases e
          · rw [i1] at z4 eq
            rcases z4 with ⟨_, e⟩ | ⟨t', e, z4⟩
            · cases e
            · cases e
              obtain ⟨a4, x4, l4, s4', rfl, h4⟩ := z4.at_
              refine ⟨_, rfl, rfl, _, rfl, iteF ?_⟩
              refine ⟨_, rfl, _, rfl, _, rfl, b, dx, _, _, t, y, rfl, s14 _ _ hb, z4, q2.same s4, i2, by_, by omega, by omega, fun a5 H5 s5 z5 => ?_⟩
              exact q _ H5 (s14.trans s5) (.inr ⟨_, eq, z5⟩)
        · rw [decide_eq_false (show ¬ (m : Int) < (x.wid : Int) by omega)]
          refine iteF ?_
          have em : (m : Int) - (x.wid : Int) = ((m - x.wid : Nat) : Int) := by omega
          have eq : lessT (.pair x y) m = (match lessT y (m - x.wid) with | none => some x | some t => some (evenP x t)) := if_neg c2
          refine ⟨_, rfl, _, rfl, _, rfl, _, rfl, a3, cStem, _, _, _, rfl, h3, T.k_Stem.cl, nW, stF_width, _, _, rfl, rfl, b, dx, _, y, m - x.wid, congrArg (fun z => [V.ref b, _, V.int z]) em, s1 _ _ hb, q2, by_, by omega, fun u H4 s4 z4 => ?_⟩
          have s14 := s1.trans s4
          rcases lessT_ok (p := m - x.wid) by_ with ⟨i1, i2, i3⟩ | ⟨t, i1, i2, i3, i4, i5⟩
          · rw [i1] at z4 eq
            rcases z4 with ⟨rfl, _⟩ | ⟨_, e, _⟩
            · refine ⟨_, rfl, rfl, _, rfl, iteT ⟨_, rfl, ?_⟩⟩
              exact q _ H4 s14 (.inr ⟨x, eq, q1.same s4⟩)
            · cases e
          · rw [i1] at z4 eq
            rcases z4 with ⟨_, e⟩ | ⟨t', e, z4⟩
            · cases e
            · cases e
              obtain ⟨a4, x4, l4, s4', rfl, h4⟩ := z4.at_
              refine ⟨_, rfl, rfl, _, rfl, iteF ?_⟩
              refine ⟨_, rfl, _, rfl, _, rfl, b, dx, _, _, x, t, rfl, s14 _ _ hb, q1.same s4, z4, bx, i2, by omega, by omega, fun a5 H5 s5 z5 => ?_⟩
              exact q _ H5 (s14.trans s5) (.inr ⟨_, eq, z5⟩)
end

section
variable {P : Program} {w : World} {K : PySem.W.Frag} {mg : Str → Option Value} {base : Heap} {cMatchError cBadShape cBadCount cBadBalance cStem cBuilder : Addr}
def spTakenShape (K : PySem.W.Frag) (C D G : Addr) : Sp := fun vs H Q E => ∃ v x n t, vs = [v, x] ∧ RepTh K H v t ∧ TyX K H x (.type n) ∧ n ∈ kinds ∧
  (¬ t.good → E (.ref C) none H) ∧ (t.good → t.isBal = false → E (.ref D) none H) ∧
  (t.good → t.isBal = true → (¬ ∃ i : Int, x = .int i ∧ 0 ≤ i ∧ i < t.wid) → E (.ref G) none H) ∧
  (t.good → t.isBal = true → ∀ m : Nat, x = .int m → m < t.wid → ∀ u H', Same H H' → PartAt K H' u (lessT t m) → Q u H')
theorem ok_taken_shape (T : Top K mg cMatchError cBadShape cBadCount cBadBalance cStem cBuilder) : Cl P w K mg base 77 "taken_shape" ["shape", "place"] (spTakenShape K cBadShape cBadBalance cBadCount) := by
  have c_need_count := ok_need_count (P := P) (w := w) (base := base) T
  have c_need_balanced := ok_need_balanced (P := P) (w := w) (base := base) T
  have c_stem_of := ok_stem_of (P := P) (w := w) (base := base) T 41
  have c_row_without := ok_row_without (P := P) (w := w) (base := base) T 22
  have c_shape_ofP := ok_shape_ofP (P := P) (w := w) (base := base) T 51
  refine T.d_taken_shape.ok sc_taken_shape (fun vs H Q E h => ?_) (fun f cdv A outer s H vs Q E hr h => ?_)
  · obtain ⟨v, x, n, t, rfl, _⟩ := h
    rfl
  · refine ⟨_, (pss_cons (ps_expr (pcT c_need_count hr (by decide) (takes_of rfl rfl rfl rfl) (pa_cons (pv 1) (pa_cons (pe_op op_sub (pcT c_need_balanced hr (by decide) (takes_of rfl rfl rfl rfl) (pa_cons (pv 0) pa_nil)) pe_int) pa_nil))))
      (pss_one (ps_ret (pcN c_shape_ofP hr (by decide) (pa_cons (pcN c_row_without hr (by decide) (pa_cons (pbare T.k_Builder T.b_Builder) (pa_cons (pcN c_stem_of hr (by decide) (pa_cons (pv 0) pa_nil)) (pa_cons (pv 1) pa_nil)))) pa_nil))))), ?_⟩
    obtain ⟨v, x, n, t, rfl, r, ty, hn, q1, q2, q3, q4⟩ := h
    refine ⟨_, rfl, _, rfl, v, t, rfl, r, fun g bt => ?_, q1, q2⟩
    refine ⟨_, _, rfl, rfl, x, _, n, rfl, ty, hn, ?_, fun z => q3 g bt fun ⟨i, e, h1, h2⟩ => z ⟨i, e, h1, by omega⟩⟩
    rintro ⟨i, rfl, i0, i1⟩
    obtain ⟨m, rfl⟩ : ∃ m : Nat, i = m := ⟨i.toNat, by omega⟩
    have q4 := q4 g bt m rfl (by omega)
    have hh := bal_hgt bt g.2.2
    refine fun b dx nb nd ne => ?_
    have S1 : Same H (upd (upd H dx (.own b)) b (.ins cBuilder dx [])) := same_upd2 nb (same_new nd)
    have hb : upd (upd H dx (.own b)) b (.ins cBuilder dx []) b = some (.ins cBuilder dx []) := upd_same
    generalize upd (upd H dx (.own b)) b (.ins cBuilder dx []) = H1 at S1 hb ⊢
    refine ⟨_, rfl, v, t, rfl, r.keep (Keep.of S1), g.1, by omega, fun a2 H2 s2 y1 => ?_⟩
    refine ⟨_, rfl, b, dx, _, t, m, rfl, s2 _ _ hb, y1, bt, by omega, fun u1 H3 s3 z1 => ?_⟩
    refine ⟨u1, _, rfl, z1, ?_, fun w1 H4 s4 p1 => q4 w1 H4 (S1.trans (s2.trans (s3.trans s4))) p1⟩
    rcases lessT_ok (p := m) bt with ⟨i1, _⟩ | ⟨u, i1, i2, i3, i4, i5⟩
    · rw [i1]
      show 0 < 51
      decide
    · rw [i1]
      show u.hgt < 51
      omega
end

section
variable {P : Program} {w : World} {K : PySem.W.Frag} {mg : Str → Option Value} {base : Heap} {cMatchError cBadShape cBadCount cBadBalance cStem cBuilder : Addr}
def spLDeed (K : PySem.W.Frag) : Sp := fun vs H Q _ => ∃ p m l xs, vs = [.ref p, .ref l] ∧ FeedAt H p m ∧ m ≤ 1000 ∧ H l = some (.lst xs) ∧ l ≠ p ∧ 1 ≤ xs.length ∧ xs.length ≤ 1000 ∧ EntsAt K H xs ∧
  ∀ H' a g um ua wl (gs : List Int) us us2 ps ws, But p H H' → SqT K H' a [.ref g, .ref um, .ref ua, .ref wl] → H' g = some (.lst (gs.map V.int)) → H' um = some (.lst us) → H' ua = some (.lst us2) → H' wl = some (.lst (nVs ws)) →
    Paired (PartAt K H') us ps → Paired (PartAt K H') us2 ps → Paired PO90 ps ws → ps.length ≤ 2 → gs.length ≤ 2 → Q (.ref a) H'
theorem ok__law_deed (T : Top K mg cMatchError cBadShape cBadCount cBadBalance cStem cBuilder) : Cl P w K mg base 79 "_law_deed" ["feed", "held"] (spLDeed K) := by
  have c__law_draw := ok__law_draw (P := P) (w := w) (base := base) T
  have c_joined_shapes := ok_joined_shapes (P := P) (w := w) (base := base) T
  have c_cut_shape := ok_cut_shape (P := P) (w := w) (base := base) T
  have c_put_shape := ok_put_shape (P := P) (w := w) (base := base) T
  have c_taken_shape := ok_taken_shape (P := P) (w := w) (base := base) T
  refine T.d__law_deed.ok sc__law_deed (fun vs H Q E h => ?_) (fun f cdv A outer s H vs Q E hr h => ?_)
  · obtain ⟨_, _, _, _, rfl, _⟩ := h
    rfl
  · refine ⟨_, (pss_cons (ps_set (i := 2) sc__law_deed.nd rfl (.inl rfl) (pcN c__law_draw hr (by decide) (pa_cons (pv 0) (pa_cons (pe_callB call_len_seq (by rfl) T.n_len (by decide +kernel) (pa_cons (pv 1) pa_nil)) pa_nil))))
      (pss_cons (ps_asg (pe_ix ix_list (pv 1) (pv 2) (fun _ _ => rfl)) (pg_tup rfl (pgs_cons (pg_name (i := 3) sc__law_deed.nd rfl (.inl rfl)) (pgs_cons (pg_name (i := 4) sc__law_deed.nd rfl (.inl rfl)) pgs_nil))))
      (pss_cons (ps_set (i := 5) sc__law_deed.nd rfl (.inl rfl) (pcN c__law_draw hr (by decide) (pa_cons (pv 0) (pa_cons (pe_callB call_len_seq (by rfl) T.n_len (by decide +kernel) (pa_cons (pv 1) pa_nil)) pa_nil))))
      (pss_cons (ps_set (i := 6) sc__law_deed.nd rfl (.inl rfl) (pcN c__law_draw hr (by decide) (pa_cons (pv 0) (pa_cons pe_int pa_nil))))
      (C8.pss_cut (ps_if (PW.pt (pw_and (pt_cmpR op_eq (pv 6) pe_int (nomark _)) (pw_and (pt_cmpR op_ne (pv 5) (pv 2) (nomark _)) (pw_and1 (pt_cmpR op_le (pe_op op_add (pv 4) (pe_ix ix_tup (pe_ix ix_list (pv 1) (pv 5) (fun _ _ => rfl)) pe_int (fun _ _ => rfl))) pe_int (nomark _)))))) (pss_cons (ps_set (i := 7) sc__law_deed.nd rfl (.inl rfl) (pcN c_joined_shapes hr (by decide) (pa_cons (pv 3) (pa_cons (pe_ix ix_tup (pe_ix ix_list (pv 1) (pv 5) (fun _ _ => rfl)) pe_int (fun _ _ => rfl)) pa_nil))))
      (pss_one (ps_ret (pe_tup (pa_cons (pe_lst (pa_cons (pv 2) (pa_cons (pv 5) pa_nil))) (pa_cons (pe_lst (pa_cons (pv 7) pa_nil)) (pa_cons (pe_lst (pa_cons (pcN c_joined_shapes hr (by decide) (pa_cons (pv 3) (pa_cons (pe_ix ix_tup (pe_ix ix_list (pv 1) (pv 5) (fun _ _ => rfl)) pe_int (fun _ _ => rfl)) pa_nil))) pa_nil)) (pa_cons (pe_lst (pa_cons (pe_op op_add (pv 4) (pe_ix ix_tup (pe_ix ix_list (pv 1) (pv 5) (fun _ _ => rfl)) pe_int (fun _ _ => rfl))) pa_nil)) pa_nil)))))))) pss_nil)
      (C8.pss_cut (ps_if (PW.pt (pw_and (pt_cmpR op_eq (pv 6) pe_int (nomark _)) (pw_and1 (pt_cmpR op_lt (pe_callB call_len_seq (by rfl) T.n_len (by decide +kernel) (pa_cons (pv 1) pa_nil)) pe_int (nomark _))))) (pss_cons (ps_set (i := 8) sc__law_deed.nd rfl (.inl rfl) (pcN c__law_draw hr (by decide) (pa_cons (pv 0) (pa_cons (pe_op op_add (pv 4) pe_int) pa_nil))))
      (pss_one (ps_ret (pe_tup (pa_cons (pe_lst (pa_cons (pv 2) pa_nil)) (pa_cons (pe_callTy call_list_of (by rfl) T.n_list (by decide +kernel) (pa_cons (pcN c_cut_shape hr (by decide) (pa_cons (pv 3) (pa_cons (pv 8) pa_nil))) pa_nil)) (pa_cons (pe_callTy call_list_of (by rfl) T.n_list (by decide +kernel) (pa_cons (pcN c_cut_shape hr (by decide) (pa_cons (pv 3) (pa_cons (pv 8) pa_nil))) pa_nil)) (pa_cons (pe_lst (pa_cons (pv 8) (pa_cons (pe_op op_sub (pv 4) (pv 8)) pa_nil))) pa_nil)))))))) pss_nil)
      (C8.pss_cut (ps_if (PW.pt (pw_and (pt_cmpR op_eq (pv 6) pe_int (nomark _)) (pw_and1 (pt_cmpR op_lt (pe_callB call_len_seq (by rfl) T.n_len (by decide +kernel) (pa_cons (pv 1) pa_nil)) pe_int (nomark _))))) (pss_one (ps_ret (pe_tup (pa_cons (pe_lst pa_nil) (pa_cons (pe_lst (pa_cons (pcN c_put_shape hr (by decide) (pa_cons (pe_tup pa_nil) (pa_cons pe_int pa_nil))) pa_nil)) (pa_cons (pe_lst (pa_cons (pcN c_put_shape hr (by decide) (pa_cons (pe_tup pa_nil) (pa_cons pe_int pa_nil))) pa_nil)) (pa_cons (pe_lst (pa_cons pe_int pa_nil)) pa_nil))))))) pss_nil)
      (C8.pss_cut (ps_if (PW.pt (pw_and (pt_cmpR op_lt (pv 6) pe_int (nomark _)) (pw_and1 (pt_cmpR op_lt (pv 4) pe_int (nomark _))))) (pss_cons (ps_set (i := 9) sc__law_deed.nd rfl (.inl rfl) (pcN c__law_draw hr (by decide) (pa_cons (pv 0) (pa_cons (pe_op op_add (pv 4) pe_int) pa_nil))))
      (pss_one (ps_ret (pe_tup (pa_cons (pe_lst (pa_cons (pv 2) pa_nil)) (pa_cons (pe_lst (pa_cons (pcN c_put_shape hr (by decide) (pa_cons (pv 3) (pa_cons (pv 9) pa_nil))) pa_nil)) (pa_cons (pe_lst (pa_cons (pcN c_put_shape hr (by decide) (pa_cons (pv 3) (pa_cons (pv 9) pa_nil))) pa_nil)) (pa_cons (pe_lst (pa_cons (pe_op op_add (pv 4) pe_int) pa_nil)) pa_nil)))))))) pss_nil)
      (pss_cons (ps_set (i := 9) sc__law_deed.nd rfl (.inl rfl) (pcN c__law_draw hr (by decide) (pa_cons (pv 0) (pa_cons (pv 4) pa_nil))))
      (pss_one (ps_ret (pe_tup (pa_cons (pe_lst (pa_cons (pv 2) pa_nil)) (pa_cons (pe_lst (pa_cons (pcN c_taken_shape hr (by decide) (pa_cons (pv 3) (pa_cons (pv 9) pa_nil))) pa_nil)) (pa_cons (pe_lst (pa_cons (pcN c_taken_shape hr (by decide) (pa_cons (pv 3) (pa_cons (pv 9) pa_nil))) pa_nil)) (pa_cons (pe_lst (pa_cons (pe_op op_sub (pv 4) pe_int) pa_nil)) pa_nil)))))))))))))))), ?_⟩
    obtain ⟨p, m, l, xs, rfl, F0, hm, hl, nlp, n1, n2, ents, q⟩ := h
    have ll : ∀ z, z < 200 → z ≤ sizeLine := fun z h => Nat.le_trans (Nat.le_of_lt h) (by decide)
    refine ⟨_, rfl, _, rfl, l, xs, rfl, .inl (sqL_of hl), p, m, _, rfl, F0, by omega, by omega, by omega, fun H1 g1 b1 F1 g10 g11 => ?_⟩
    obtain ⟨at_, rfl⟩ : ∃ at_ : Nat, g1 = at_ := ⟨g1.toNat, by omega⟩
    have hat : at_ < xs.length := by omega
    have hl1 := b1 l _ nlp hl
    have ents1 := ents.keep (F0.keeps b1 F1)
    obtain ⟨a1, v, t, e1, hT1, r1, bt, wt⟩ := ents1 _ (List.getElem_mem hat)
    refine ⟨_, rfl, _, rfl, l, xs, _, xs[at_], rfl, rfl, sqL_of hl1, atI_nat (j := at_) (List.getElem?_eq_getElem hat), a1, _, e1, hT1, rfl, _, _, rfl, _, _, rfl, rfl, ?_⟩
    refine ⟨_, rfl, _, rfl, l, xs, rfl, .inl (sqL_of hl1), p, m + 1, _, rfl, F1, by omega, by omega, by omega, fun H2 g2 b2 F2 g20 g21 => ?_⟩
    obtain ⟨ot, rfl⟩ : ∃ ot : Nat, g2 = ot := ⟨g2.toNat, by omega⟩
    have hot : ot < xs.length := by omega
    refine ⟨_, rfl, p, m + 2, 5, rfl, F2, by omega, by decide, by decide, fun H3 way b3 F3 wy0 wy1 => ?_⟩
    have hl3 := b3 l _ nlp (b2 l _ nlp hl1)
    have k13 := (F1.keeps b2 F2).trans (F2.keeps b3 F3)
    have ents3 := ents1.keep k13
    have B3 : But p H H3 := b1.trans (b2.trans b3)
    have r3 := r1.keep k13
    have gt := bal_good bt (by omega)
    have pt := bal_wid bt
    have fin : ∀ H4 g um ua (gs : List Int) us us2 ps (ws : List Nat) (ys : List V), But p H H4 → H4 g = some (.lst (gs.map V.int)) → H4 um = some (.lst us) → H4 ua = some (.lst us2) → Paired (PartAt K H4) us ps → Paired (PartAt K H4) us2 ps → Paired PO90 ps ws → ps.length ≤ 2 → gs.length ≤ 2 → ys = nVs ws →
        ys.length ≤ sizeLine ∧ ∀ wl, H4 wl = none → 4 ≤ sizeLine ∧ ∀ a, upd H4 wl (.lst ys) a = none → Q (.ref a) (upd (upd H4 wl (.lst ys)) a (.tup [.ref g, .ref um, .ref ua, .ref wl])) := fun H4 g um ua gs us us2 ps ws ys b h1 h2 h3 p1 p2 p3 l1 l2 ey => by
      subst ey
      have lw := paired_len p3
      refine ⟨Nat.le_trans (show (nVs ws).length ≤ 2 by unfold nVs; rw [List.length_map]; omega) (by decide), fun wl nw => ⟨by decide, fun a na => ?_⟩⟩
      have S1 := same_new (o := .lst (nVs ws)) nw
      have S2 := same_new (o := .tup [.ref g, .ref um, .ref ua, .ref wl]) na
      have S12 := S1.trans S2
      exact q _ a g um ua wl gs us us2 ps ws (b.trans (But.of S12)) (sqT_of upd_same) (S12 _ _ h1) (S12 _ _ h2) (S12 _ _ h3) (S2 _ _ upd_same) (paired_imp (fun _ _ z => z.keep (Keep.of S12)) p1) (paired_imp (fun _ _ z => z.keep (Keep.of S12)) p2) p3 l1 l2
    obtain ⟨a2, v2, t2, e2, hT2, r2, b2', w2⟩ := ents3 _ (List.getElem_mem hot)
    have g2' := bal_good b2' (by omega)
    dsimp only [gName]
    refine ⟨fun σ' H' => H' = H3 ∧ σ' = [some (.ref p), some (.ref l), some (.int at_), some v, some (.int (t.wid : Nat)), some (.int ot), some (.int way), none, none, none], ?_, ?_⟩
    · refine ⟨_, rfl, rfl, _, rfl, ite2 (fun _ => ?_) (fun _ => ⟨rfl, rfl⟩)⟩
      refine ⟨_, rfl, _, rfl, rfl, _, rfl, ite2 (fun _ => ?_) (fun _ => ⟨rfl, rfl⟩)⟩
      refine ⟨_, rfl, _, rfl, _, rfl, l, xs, _, xs[ot], rfl, rfl, sqL_of hl3, atI_nat (j := ot) (List.getElem?_eq_getElem hot), a2, _, _, _, e2, rfl, hT2, atI_nat (j := 1) rfl, _, _, rfl, rfl, _, _, rfl, rfl, _, rfl, ite2 (fun e => ?_) (fun _ => ⟨rfl, rfl⟩)⟩
      have e90 : (t.wid : Int) + (t2.wid : Int) ≤ 90 := of_decide_eq_true e
      obtain ⟨jb, jw⟩ := joinT_ok bt b2' (by omega) (by omega)
      refine ⟨_, rfl, _, rfl, _, rfl, l, xs, _, xs[ot], rfl, rfl, sqL_of hl3, atI_nat (j := ot) (List.getElem?_eq_getElem hot), a2, _, _, _, e2, rfl, hT2, atI_nat (j := 0) rfl, v, v2, t, t2, rfl, r3, r2, fun n => (n gt).elim, (fun _ z => by rw [bt] at z; cases z), fun _ _ n => (n g2').elim, (fun _ _ _ z => by rw [b2'] at z; cases z), (fun _ _ _ _ z => by omega), fun _ _ _ _ _ u H4 s4 r4 => ?_⟩
      refine ⟨_, rfl, _, rfl, ll 2 (by decide), fun g ng => ?_⟩
      have S5 := same_new (o := .lst [.int (at_ : Nat), .int (ot : Nat)]) ng
      have fg : upd H4 g (.lst [.int (at_ : Nat), .int (ot : Nat)]) g = some (.lst [.int (at_ : Nat), .int (ot : Nat)]) := upd_same
      generalize upd H4 g (.lst [.int (at_ : Nat), .int (ot : Nat)]) = H5 at S5 fg ⊢
      refine ⟨_, rfl, ll 1 (by decide), fun um nm => ?_⟩
      have S6 := same_new (o := .lst [u]) nm
      have fm : upd H5 um (.lst [u]) um = some (.lst [u]) := upd_same
      generalize upd H5 um (.lst [u]) = H6 at S6 fm ⊢
      have s36 := s4.trans (S5.trans S6)
      refine ⟨_, rfl, _, rfl, _, rfl, l, xs, _, xs[ot], rfl, rfl, sqL_of (s36 _ _ hl3), atI_nat (j := ot) (List.getElem?_eq_getElem hot), a2, _, _, _, e2, rfl, Same.seqT s36 hT2, atI_nat (j := 0) rfl, v, v2, t, t2, rfl, r3.keep (Keep.of s36), r2.keep (Keep.of s36), fun n => (n gt).elim, (fun _ z => by rw [bt] at z; cases z), fun _ _ n => (n g2').elim, (fun _ _ _ z => by rw [b2'] at z; cases z), (fun _ _ _ _ z => by omega), fun _ _ _ _ _ u7 H7 s7 r7 => ?_⟩
      refine ⟨ll 1 (by decide), fun ua na => ?_⟩
      have S8 := same_new (o := .lst [u7]) na
      have fa : upd H7 ua (.lst [u7]) ua = some (.lst [u7]) := upd_same
      generalize upd H7 ua (.lst [u7]) = H8 at S8 fa ⊢
      have s68 := s7.trans S8
      have s38 := s36.trans s68
      refine ⟨_, rfl, _, rfl, _, rfl, l, xs, _, xs[ot], rfl, rfl, sqL_of (s38 _ _ hl3), atI_nat (j := ot) (List.getElem?_eq_getElem hot), a2, _, _, _, e2, rfl, Same.seqT s38 hT2, atI_nat (j := 1) rfl, _, _, rfl, rfl, ?_⟩
      exact fin H8 g um ua [(at_ : Int), (ot : Int)] [u] [u7] [some (joinT t t2)] [t.wid + t2.wid] _ (B3.trans (But.of s38)) (s68 _ _ (S6 _ _ fg)) (s68 _ _ fm) fa (.cons (.inr ⟨_, rfl, r4.keep (Keep.of (S5.trans (S6.trans s68)))⟩) .nil) (.cons (.inr ⟨_, rfl, r7.keep (Keep.of S8)⟩) .nil) (.cons ⟨.inr ⟨_, rfl, jb, jw⟩, by omega⟩ .nil) (by show 1 ≤ 2; decide) (by show 2 ≤ 2; decide) (by show [V.int ((t.wid : Int) + (t2.wid : Int))] = [V.int ((t.wid + t2.wid : Nat) : Int)]; rw [show ((t.wid + t2.wid : Nat) : Int) = (t.wid : Int) + (t2.wid : Int) by omega])
    rintro σ' H' ⟨rfl, rfl⟩
    refine ⟨fun σ' H4 => H4 = H' ∧ σ' = [some (.ref p), some (.ref l), some (.int at_), some v, some (.int (t.wid : Nat)), some (.int ot), some (.int way), none, none, none], ?_, ?_⟩
    · refine ⟨_, rfl, rfl, _, rfl, ite2 (fun _ => ?_) (fun _ => ⟨rfl, rfl⟩)⟩
      refine ⟨_, rfl, l, xs, rfl, .inl (sqL_of hl3), _, _, rfl, rfl, _, rfl, ite2 (fun _ => ?_) (fun _ => ⟨rfl, rfl⟩)⟩
      refine ⟨_, rfl, _, rfl, _, _, rfl, rfl, p, m + 3, _, rfl, F3, by omega, by omega, by omega, fun H4 g4 b4 F4 g40 g41 => ?_⟩
      obtain ⟨mm, rfl⟩ : ∃ mm : Nat, g4 = mm := ⟨g4.toNat, by omega⟩
      have hmm : mm ≤ t.wid := by omega
      have r4 := r3.keep (F3.keeps b4 F4)
      have B4 := B3.trans b4
      obtain ⟨o1, o2⟩ := cutT_ok bt hmm (by omega)
      refine ⟨_, rfl, ll 1 (by decide), fun g ng => ?_⟩
      have S5 := same_new (o := .lst [.int (at_ : Nat)]) ng
      have fg : upd H4 g (.lst [.int (at_ : Nat)]) g = some (.lst [.int (at_ : Nat)]) := upd_same
      generalize upd H4 g (.lst [.int (at_ : Nat)]) = H5 at S5 fg ⊢
      refine ⟨_, rfl, _, rfl, v, .int mm, t, "int", rfl, r4.keep (Keep.of S5), ty_int _, by decide, fun n => (n gt).elim, (fun _ z => by rw [bt] at z; cases z), fun _ _ n => (n ⟨mm, rfl, by omega, by omega⟩).elim, fun _ _ m' em' hm' c u1 u2 H6 s6 hT6 p1 p2 => ?_⟩
      obtain rfl : mm = m' := by
        have := V.int.inj em'
        omega
      refine ⟨c, _, rfl, .inr hT6, fun um nm => ?_⟩
      have S7 := same_new (o := .lst [u1, u2]) nm
      have fm : upd H6 um (.lst [u1, u2]) um = some (.lst [u1, u2]) := upd_same
      generalize upd H6 um (.lst [u1, u2]) = H7 at S7 fm ⊢
      have s47 := S5.trans (s6.trans S7)
      refine ⟨_, rfl, _, rfl, v, .int mm, t, "int", rfl, r4.keep (Keep.of s47), ty_int _, by decide, fun n => (n gt).elim, (fun _ z => by rw [bt] at z; cases z), fun _ _ n => (n ⟨mm, rfl, by omega, by omega⟩).elim, fun _ _ m' em' hm' c' u3 u4 H8 s8 hT8 p3 p4 => ?_⟩
      obtain rfl : mm = m' := by
        have := V.int.inj em'
        omega
      refine ⟨c', _, rfl, .inr hT8, fun ua na => ?_⟩
      have S9 := same_new (o := .lst [u3, u4]) na
      have fa : upd H8 ua (.lst [u3, u4]) ua = some (.lst [u3, u4]) := upd_same
      generalize upd H8 ua (.lst [u3, u4]) = H9 at S9 fa ⊢
      have s79 := s8.trans S9
      refine ⟨_, rfl, _, rfl, _, rfl, _, _, rfl, rfl, ?_⟩
      have k69 := S7.trans s79
      exact fin H9 g um ua [(at_ : Int)] [u1, u2] [u3, u4] [(cutT t mm).1, (cutT t mm).2] [mm, t.wid - mm] _ (B4.trans (But.of (s47.trans s79))) (s79 _ _ (S7 _ _ (s6 _ _ fg))) (s79 _ _ fm) fa (.cons (p1.same k69) (.cons (p2.same k69) .nil)) (.cons (p3.same S9) (.cons (p4.same S9) .nil)) (.cons ⟨o1, by omega⟩ (.cons ⟨o2, by omega⟩ .nil)) (by show 2 ≤ 2; decide) (by show 1 ≤ 2; decide) (by show [V.int (mm : Int), V.int ((t.wid : Int) - (mm : Int))] = [V.int ((mm : Nat) : Int), V.int ((t.wid - mm : Nat) : Int)]; rw [show ((t.wid - mm : Nat) : Int) = (t.wid : Int) - (mm : Int) by omega])
    rintro σ' H4 ⟨rfl, rfl⟩
    refine ⟨fun σ' H5 => H5 = H4 ∧ σ' = [some (.ref p), some (.ref l), some (.int at_), some v, some (.int (t.wid : Nat)), some (.int ot), some (.int way), none, none, none], ?_, ?_⟩
    · refine ⟨_, rfl, rfl, _, rfl, ite2 (fun _ => ?_) (fun _ => ⟨rfl, rfl⟩)⟩
      refine ⟨_, rfl, l, xs, rfl, .inl (sqL_of hl3), _, _, rfl, rfl, _, rfl, ite2 (fun _ => ?_) (fun _ => ⟨rfl, rfl⟩)⟩
      refine ⟨ll 0 (by decide), fun g ng => ?_⟩
      have S5 := same_new (o := .lst []) ng
      have fg : upd H4 g (.lst []) g = some (.lst []) := upd_same
      generalize upd H4 g (.lst []) = H5 at S5 fg ⊢
      have emp : ∀ {H1 : Hp} {z : Addr}, SqT K H1 z [] → RepTh K H1 (.ref z) .other := fun h => .other (ty_t h) (by decide) (fun z => by cases z) (fun _ => ⟨_, [], rfl, h, by decide⟩)
      refine ⟨ll 0 (by decide), fun e1 ne1 => ?_⟩
      have S6 := same_new (o := .tup []) ne1
      have f6 : SqT K (upd H5 e1 (.tup [])) e1 [] := sqT_of upd_same
      generalize upd H5 e1 (.tup []) = H6 at S6 f6 ⊢
      refine ⟨.ref e1, .int 0, "int", true, .other, rfl, emp f6, .tup (xs := []) f6, ty_int _, by decide, fun _ n => (n rfl).elim, fun _ _ u H7 s7 r7 => ?_, (fun z => by cases z), (fun z => by cases z), (fun z => by cases z), (fun z => by cases z), (fun z => by cases z)⟩
      refine ⟨ll 1 (by decide), fun um nm => ?_⟩
      have S8 := same_new (o := .lst [u]) nm
      have fm : upd H7 um (.lst [u]) um = some (.lst [u]) := upd_same
      generalize upd H7 um (.lst [u]) = H8 at S8 fm ⊢
      refine ⟨ll 0 (by decide), fun e2 ne2 => ?_⟩
      have S9 := same_new (o := .tup []) ne2
      have f9 : SqT K (upd H8 e2 (.tup [])) e2 [] := sqT_of upd_same
      generalize upd H8 e2 (.tup []) = H9 at S9 f9 ⊢
      refine ⟨.ref e2, .int 0, "int", true, .other, rfl, emp f9, .tup (xs := []) f9, ty_int _, by decide, fun _ n => (n rfl).elim, fun _ _ u2 H10 s10 r10 => ?_, (fun z => by cases z), (fun z => by cases z), (fun z => by cases z), (fun z => by cases z), (fun z => by cases z)⟩
      refine ⟨ll 1 (by decide), fun ua na => ?_⟩
      have S11 := same_new (o := .lst [u2]) na
      have fa : upd H10 ua (.lst [u2]) ua = some (.lst [u2]) := upd_same
      generalize upd H10 ua (.lst [u2]) = H11 at S11 fa ⊢
      have s811 := S9.trans (s10.trans S11)
      have s711 := S8.trans s811
      have s511 := S6.trans (s7.trans s711)
      exact fin H11 g um ua [] [u] [u2] [some .one] [1] _ (B3.trans (But.of (S5.trans s511))) (s511 _ _ fg) (s811 _ _ fm) fa (.cons (.inr ⟨_, rfl, r7.keep (Keep.of s711)⟩) .nil) (.cons (.inr ⟨_, rfl, r10.keep (Keep.of S11)⟩) .nil) (.cons ⟨.inr ⟨_, rfl, rfl, rfl⟩, by decide⟩ .nil) (by show 1 ≤ 2; decide) (by show 0 ≤ 2; decide) rfl
    rintro σ' H5 ⟨rfl, rfl⟩
    refine ⟨fun σ' H6 => H6 = H5 ∧ σ' = [some (.ref p), some (.ref l), some (.int at_), some v, some (.int (t.wid : Nat)), some (.int ot), some (.int way), none, none, none], ?_, ?_⟩
    · refine ⟨_, rfl, _, _, rfl, rfl, _, rfl, ite2 (fun _ => ?_) (fun _ => ⟨rfl, rfl⟩)⟩
      refine ⟨_, rfl, _, _, rfl, rfl, _, rfl, ite2 (fun e => ?_) (fun _ => ⟨rfl, rfl⟩)⟩
      have e90 : (t.wid : Int) < 90 := of_decide_eq_true e
      refine ⟨_, rfl, _, rfl, _, _, rfl, rfl, p, m + 3, _, rfl, F3, by omega, by omega, by omega, fun H4 g4 b4 F4 g40 g41 => ?_⟩
      obtain ⟨mm, rfl⟩ : ∃ mm : Nat, g4 = mm := ⟨g4.toNat, by omega⟩
      have hmm : mm ≤ t.wid := by omega
      have r4 := r3.keep (F3.keeps b4 F4)
      have B4 := B3.trans b4
      obtain ⟨w1, w2', w3, w4⟩ := withT_ok (p := mm) bt
      refine ⟨_, rfl, ll 1 (by decide), fun g ng => ?_⟩
      have S5 := same_new (o := .lst [.int (at_ : Nat)]) ng
      have fg : upd H4 g (.lst [.int (at_ : Nat)]) g = some (.lst [.int (at_ : Nat)]) := upd_same
      generalize upd H4 g (.lst [.int (at_ : Nat)]) = H6 at S5 fg ⊢
      have r5 := r4.keep (Keep.of S5)
      refine ⟨_, rfl, _, rfl, v, .int mm, "int", false, t, rfl, r5, r5.emp gt.1, ty_int _, by decide, (fun z => by cases z), (fun z => by cases z), fun _ n => (n gt).elim, (fun _ _ z => by rw [bt] at z; cases z), fun _ _ _ n => (n ⟨mm, rfl, by omega, by omega⟩).elim, fun _ _ _ _ z => by omega, fun _ _ _ m' em' hm' _ u H7 s7 r7 => ?_⟩
      obtain rfl : mm = m' := by
        have := V.int.inj em'
        omega
      refine ⟨ll 1 (by decide), fun um nm => ?_⟩
      have S8 := same_new (o := .lst [u]) nm
      have fm : upd H7 um (.lst [u]) um = some (.lst [u]) := upd_same
      generalize upd H7 um (.lst [u]) = H8 at S8 fm ⊢
      have s68 := s7.trans S8
      have r8 := r5.keep (Keep.of s68)
      refine ⟨_, rfl, _, rfl, v, .int mm, "int", false, t, rfl, r8, r8.emp gt.1, ty_int _, by decide, (fun z => by cases z), (fun z => by cases z), fun _ n => (n gt).elim, (fun _ _ z => by rw [bt] at z; cases z), fun _ _ _ n => (n ⟨mm, rfl, by omega, by omega⟩).elim, fun _ _ _ _ z => by omega, fun _ _ _ m' em' hm' _ u2 H10 s10 r10 => ?_⟩
      obtain rfl : mm = m' := by
        have := V.int.inj em'
        omega
      refine ⟨ll 1 (by decide), fun ua na => ?_⟩
      have S11 := same_new (o := .lst [u2]) na
      have fa : upd H10 ua (.lst [u2]) ua = some (.lst [u2]) := upd_same
      generalize upd H10 ua (.lst [u2]) = H11 at S11 fa ⊢
      have s811 := s10.trans S11
      refine ⟨_, rfl, _, _, rfl, rfl, ?_⟩
      exact fin H11 g um ua [(at_ : Int)] [u] [u2] [some (withT t mm)] [t.wid + 1] _ (B4.trans (But.of (S5.trans (s68.trans s811)))) (s811 _ _ (s68 _ _ fg)) (s811 _ _ fm) fa (.cons (.inr ⟨_, rfl, r7.keep (Keep.of (S8.trans s811))⟩) .nil) (.cons (.inr ⟨_, rfl, r10.keep (Keep.of S11)⟩) .nil) (.cons ⟨.inr ⟨_, rfl, w1, w2'⟩, by omega⟩ .nil) (by show 1 ≤ 2; decide) (by show 1 ≤ 2; decide) rfl
    rintro σ' H6 ⟨rfl, rfl⟩
    refine ⟨_, rfl, _, rfl, p, m + 3, _, rfl, F3, by omega, by omega, by omega, fun H4 g4 b4 F4 g40 g41 => ?_⟩
    obtain ⟨mm, rfl⟩ : ∃ mm : Nat, g4 = mm := ⟨g4.toNat, by omega⟩
    have hmm : mm < t.wid := by omega
    have r4 := r3.keep (F3.keeps b4 F4)
    have B4 := B3.trans b4
    have po : PO90 (lessT t mm) (t.wid - 1) := by
      rcases lessT_ok (p := mm) bt with ⟨i1, i2, i3⟩ | ⟨u, i1, i2, i3, i4, i5⟩
      · exact ⟨.inl ⟨by omega, i1⟩, by omega⟩
      · exact ⟨.inr ⟨u, i1, i2, by omega⟩, by omega⟩
    refine ⟨_, rfl, ll 1 (by decide), fun g ng => ?_⟩
    have S5 := same_new (o := .lst [.int (at_ : Nat)]) ng
    have fg : upd H4 g (.lst [.int (at_ : Nat)]) g = some (.lst [.int (at_ : Nat)]) := upd_same
    generalize upd H4 g (.lst [.int (at_ : Nat)]) = H5 at S5 fg ⊢
    have r5 := r4.keep (Keep.of S5)
    refine ⟨_, rfl, _, rfl, v, .int mm, "int", t, rfl, r5, ty_int _, by decide, fun n => (n gt).elim, (fun _ z => by rw [bt] at z; cases z), fun _ _ n => (n ⟨mm, rfl, by omega, by omega⟩).elim, fun _ _ m' em' hm' u H7 s7 p7 => ?_⟩
    obtain rfl : mm = m' := by
      have := V.int.inj em'
      omega
    refine ⟨ll 1 (by decide), fun um nm => ?_⟩
    have S8 := same_new (o := .lst [u]) nm
    have fm : upd H7 um (.lst [u]) um = some (.lst [u]) := upd_same
    generalize upd H7 um (.lst [u]) = H8 at S8 fm ⊢
    have s68 := s7.trans S8
    have r8 := r5.keep (Keep.of s68)
    refine ⟨_, rfl, _, rfl, v, .int mm, "int", t, rfl, r8, ty_int _, by decide, fun n => (n gt).elim, (fun _ z => by rw [bt] at z; cases z), fun _ _ n => (n ⟨mm, rfl, by omega, by omega⟩).elim, fun _ _ m' em' hm' u2 H10 s10 p10 => ?_⟩
    obtain rfl : mm = m' := by
      have := V.int.inj em'
      omega
    refine ⟨ll 1 (by decide), fun ua na => ?_⟩
    have S11 := same_new (o := .lst [u2]) na
    have fa : upd H10 ua (.lst [u2]) ua = some (.lst [u2]) := upd_same
    generalize upd H10 ua (.lst [u2]) = H11 at S11 fa ⊢
    have s811 := s10.trans S11
    refine ⟨_, rfl, _, _, rfl, rfl, ?_⟩
    exact fin H11 g um ua [(at_ : Int)] [u] [u2] [lessT t mm] [t.wid - 1] _ (B4.trans (But.of (S5.trans (s68.trans s811)))) (s811 _ _ (s68 _ _ fg)) (s811 _ _ fm) fa (.cons (p7.same (S8.trans s811)) .nil) (.cons (p10.same S11) .nil) (.cons po .nil) (by show 1 ≤ 2; decide) (by show 1 ≤ 2; decide) (by show [V.int ((t.wid : Int) - 1)] = [V.int ((t.wid - 1 : Nat) : Int)]; rw [show ((t.wid - 1 : Nat) : Int) = (t.wid : Int) - 1 by omega])
end

section
variable {P : Program} {w : World} {K : PySem.W.Frag} {mg : Str → Option Value} {base : Heap} {cMatchError cBadShape cBadCount cBadBalance cStem cBuilder : Addr}
def spIsShape (K : PySem.W.Frag) : Sp := fun vs H Q _ => ∃ v t, vs = [v] ∧ RepTh K H v t ∧ Q (.bl (decide t.good)) H
theorem ok_is_shape (T : Top K mg cMatchError cBadShape cBadCount cBadBalance cStem cBuilder) : Cl P w K mg base 42 "is_shape" ["thing"] (spIsShape K) := by
  have c_width_in := ok_width_in (P := P) (w := w) (base := base) T 41
  refine T.d_is_shape.ok sc_is_shape (fun vs H Q E h => ?_) (fun f cdv A outer s H vs Q E hr h => ?_)
  · obtain ⟨v, t, rfl, _⟩ := h
    rfl
  · refine ⟨_, (pss_one (ps_ret (pe_cmpR op_gt (pcN c_width_in hr (by decide) (pa_cons (pv 0) (pa_cons (C8.pe_gc (by rfl) T.v_MOST_HEIGHT) pa_nil))) pe_int (nomark _)))), ?_⟩
    obtain ⟨v, t, rfl, r, q⟩ := h
    refine ⟨_, rfl, v, t, 40, rfl, r, by decide, _, _, rfl, rfl, ?_⟩
    have e : decide ((0 : Int) < ((t.win 40 : Nat) : Int)) = decide t.good := by
      rw [t.win_eq 40]
      by_cases g : t.good
      · have g' : t.sh = true ∧ t.hgt ≤ 40 ∧ t.wid ≤ 20000 := g
        have p := t.wid_pos g.1
        rw [if_pos g', decide_eq_true g, decide_eq_true (by omega)]
      · have g' : ¬ (t.sh = true ∧ t.hgt ≤ 40 ∧ t.wid ≤ 20000) := g
        rw [if_neg g', decide_eq_false g]
        rfl
    show Q (.bl (decide ((0 : Int) < ((t.win 40 : Nat) : Int)))) H
    rw [e]
    exact q
end

section
variable {P : Program} {w : World} {K : PySem.W.Frag} {mg : Str → Option Value} {base : Heap} {cMatchError cBadShape cBadCount cBadBalance cStem cBuilder : Addr}
def spIsBalanced (K : PySem.W.Frag) (C : Addr) : Sp := fun vs H Q E => ∃ v t, vs = [v] ∧ RepTh K H v t ∧ (t.good → Q (.bl t.isBal) H) ∧ (¬ t.good → E (.ref C) none H)
theorem ok_is_balanced (T : Top K mg cMatchError cBadShape cBadCount cBadBalance cStem cBuilder) : Cl P w K mg base 43 "is_balanced" ["shape"] (spIsBalanced K cBadShape) := by
  have c_need_shape := ok_need_shape (P := P) (w := w) (base := base) T
  have c_balanced_height := ok_balanced_height (P := P) (w := w) (base := base) T 41
  refine T.d_is_balanced.ok sc_is_balanced (fun vs H Q E h => ?_) (fun f cdv A outer s H vs Q E hr h => ?_)
  · obtain ⟨v, t, rfl, _⟩ := h
    rfl
  · refine ⟨_, (pss_cons (ps_expr (pcT c_need_shape hr (by decide) (takes_of rfl rfl rfl rfl) (pa_cons (pv 0) pa_nil)))
      (pss_one (ps_ret (pe_cmpR op_ge (pcN c_balanced_height hr (by decide) (pa_cons (pv 0) pa_nil)) pe_int (nomark _))))), ?_⟩
    obtain ⟨v, t, rfl, r, qy, qn⟩ := h
    refine ⟨_, rfl, v, t, rfl, r, fun g => ?_, qn⟩
    refine ⟨_, rfl, v, t, rfl, r, g.1, by have := g.2.1; omega, ?_⟩
    rw [t.bal_eq]
    refine ⟨_, _, rfl, rfl, ?_⟩
    have e : decide ((0 : Int) ≤ if t.isBal = true then (t.hgt : Int) else -1) = t.isBal := by
      cases t.isBal
      · rfl
      · exact decide_eq_true (by rw [if_pos rfl]; omega)
    show Q (.bl (decide ((0 : Int) ≤ if t.isBal = true then (t.hgt : Int) else -1))) H
    rw [e]
    exact qy g
end

section
variable {P : Program} {w : World} {K : PySem.W.Frag} {mg : Str → Option Value} {base : Heap} {cMatchError cBadShape cBadCount cBadBalance cStem cBuilder : Addr}
theorem ok_width_of (T : Top K mg cMatchError cBadShape cBadCount cBadBalance cStem cBuilder) : Cl P w K mg base 43 "width_of" ["shape"] (spNeedShape K cBadShape) := by
  have c_need_shape := ok_need_shape (P := P) (w := w) (base := base) T
  refine T.d_width_of.ok sc_width_of (fun vs H Q E h => ?_) (fun f cdv A outer s H vs Q E hr h => ?_)
  · obtain ⟨v, t, rfl, _⟩ := h
    rfl
  · refine ⟨_, (pss_one (ps_ret (pcT c_need_shape hr (by decide) (takes_of rfl rfl rfl rfl) (pa_cons (pv 0) pa_nil)))), ?_⟩
    obtain ⟨v, t, rfl, r, qy, qn⟩ := h
    exact ⟨_, rfl, v, t, rfl, r, qy, qn⟩
end

section
variable {P : Program} {w : World} {K : PySem.W.Frag} {mg : Str → Option Value} {base : Heap} {cMatchError cBadShape cBadCount cBadBalance cStem cBuilder : Addr}
def spHeightIn (K : PySem.W.Frag) (n : Nat) : Sp := fun vs H Q _ => ∃ v t, vs = [v] ∧ RepTh K H v t ∧ t.sh = true ∧ t.hgt < n ∧ Q (.int t.hgt) H
theorem ok_height_in (T : Top K mg cMatchError cBadShape cBadCount cBadBalance cStem cBuilder) : ∀ n, Cl P w K mg base n "height_in" ["shape"] (spHeightIn K n)
  | 0 => by
    exact T.d_height_in.never fun vs H Q E h => by
      obtain ⟨_, _, _, _, _, z, _⟩ := h
      cases z
  | n + 1 => by
    have ih := ok_height_in T n
    refine T.d_height_in.ok sc_height_in (fun vs H Q E h => ?_) (fun f cdv A outer s H vs Q E hr h => ?_)
    · obtain ⟨v, t, rfl, _⟩ := h
      rfl
    · refine ⟨_, (pss_cons (ps_if (pt_cmpR op_isN (pv 0) pe_non (nomark _)) (pss_one (ps_ret pe_int)) pss_nil)
      (pss_one (ps_ret (pe_op op_add pe_int (pe_callB (call_max2 rfl) (by rfl) T.n_max (by decide +kernel) (pa_cons (pcN ih hr (Nat.le_refl _) (pa_cons (pe_ix ix_tup (pv 0) pe_int (fun _ _ => rfl)) pa_nil)) (pa_cons (pcN ih hr (Nat.le_refl _) (pa_cons (pe_ix ix_tup (pv 0) pe_int (fun _ _ => rfl)) pa_nil)) pa_nil))))))), ?_⟩
      obtain ⟨v, t, rfl, r, sh, hm, q⟩ := h
      cases r with
      | one => exact ⟨_, rfl, rfl, _, rfl, iteT q⟩
      | other => cases sh
      | @pair a v1 v2 t1 t2 hS r1 r2 =>
        have sh : (t1.sh && t2.sh) = true := sh
        rw [Bool.and_eq_true] at sh
        have hm : 1 + max t1.hgt t2.hgt < n + 1 := hm
        refine ⟨_, rfl, rfl, _, rfl, iteF ?_⟩
        refine ⟨_, rfl, a, _, _, _, rfl, rfl, hS, atI_nat (j := 0) rfl, v1, t1, rfl, r1, sh.1, by omega, ?_⟩
        refine ⟨_, rfl, a, _, _, _, rfl, rfl, hS, atI_nat (j := 1) rfl, v2, t2, rfl, r2, sh.2, by omega, ?_⟩
        refine ⟨_, _, rfl, _, _, rfl, rfl, ?_⟩
        show Q (.int (1 + if (t2.hgt : Int) > t1.hgt then (t2.hgt : Int) else t1.hgt)) H
        have e : (1 + if (t2.hgt : Int) > t1.hgt then (t2.hgt : Int) else t1.hgt) = (((t1.pair t2).hgt : Nat) : Int) := by
          show _ = ((1 + max t1.hgt t2.hgt : Nat) : Int)
          split <;> omega
        rw [e]
        exact q
end

section
variable {P : Program} {w : World} {K : PySem.W.Frag} {mg : Str → Option Value} {base : Heap} {cMatchError cBadShape cBadCount cBadBalance cStem cBuilder : Addr}
def spHeightOf (K : PySem.W.Frag) (C : Addr) : Sp := fun vs H Q E => ∃ v t, vs = [v] ∧ RepTh K H v t ∧ (t.good → Q (.int t.hgt) H) ∧ (¬ t.good → E (.ref C) none H)
theorem ok_height_of (T : Top K mg cMatchError cBadShape cBadCount cBadBalance cStem cBuilder) : Cl P w K mg base 43 "height_of" ["shape"] (spHeightOf K cBadShape) := by
  have c_need_shape := ok_need_shape (P := P) (w := w) (base := base) T
  have c_height_in := ok_height_in (P := P) (w := w) (base := base) T 41
  refine T.d_height_of.ok sc_height_of (fun vs H Q E h => ?_) (fun f cdv A outer s H vs Q E hr h => ?_)
  · obtain ⟨v, t, rfl, _⟩ := h
    rfl
  · refine ⟨_, (pss_cons (ps_expr (pcT c_need_shape hr (by decide) (takes_of rfl rfl rfl rfl) (pa_cons (pv 0) pa_nil)))
      (pss_one (ps_ret (pcN c_height_in hr (by decide) (pa_cons (pv 0) pa_nil))))), ?_⟩
    obtain ⟨v, t, rfl, r, qy, qn⟩ := h
    exact ⟨_, rfl, v, t, rfl, r, fun g => ⟨_, rfl, v, t, rfl, r, g.1, by have := g.2.1; omega, qy g⟩, qn⟩
end

section
variable {P : Program} {w : World} {K : PySem.W.Frag} {mg : Str → Option Value} {base : Heap} {cMatchError cBadShape cBadCount cBadBalance cStem cBuilder : Addr}
def spTallestOf : Sp := fun vs H Q _ => ∃ w : Nat, vs = [.int w] ∧ ∀ (h : Nat) (H' : Hp), IsTall w h → Same H H' → Q (.int h) H'
theorem ok_tallest_of (T : Top K mg cMatchError cBadShape cBadCount cBadBalance cStem cBuilder) : Cl P w K mg base 1 "tallest_of" ["width"] spTallestOf := by
  refine T.d_tallest_of.ok sc_tallest_of (fun vs H Q E h => ?_) (fun f cdv A outer s H vs Q E hr h => ?_)
  · obtain ⟨n, rfl, _⟩ := h
    rfl
  · refine ⟨_, (pss_cons (ps_asg (pe_tup (pa_cons pe_int (pa_cons pe_int (pa_cons pe_int pa_nil)))) (pg_tup rfl (pgs_cons (pg_name (i := 1) sc_tallest_of.nd rfl (.inl rfl)) (pgs_cons (pg_name (i := 2) sc_tallest_of.nd rfl (.inl rfl)) (pgs_cons (pg_name (i := 3) sc_tallest_of.nd rfl (.inl rfl)) pgs_nil)))))
      (pss_cons (ps_while (passes_of rfl) (pt_cmpR op_le (pv 3) (pv 0) (nomark _)) (pss_one (ps_par3 (i := 1) (j := 2) (l := 3) (by rfl) sc_tallest_of.nd rfl rfl rfl (by decide) (by decide) (by decide) rfl rfl rfl (pa_cons (pe_op op_add (pv 1) pe_int) (pa_cons (pv 3) (pa_cons (pe_op op_add (pv 2) (pv 3)) pa_nil))) (by rfl))))
      (pss_one (ps_ret (pv 1))))), ?_⟩
    obtain ⟨n, rfl, q⟩ := h
    refine ⟨by show 3 ≤ sizeLine; decide, fun p np => ⟨p, _, rfl, sqT_of upd_same, rfl, _, _, rfl, _, _, rfl, _, _, rfl, rfl, ?_⟩⟩
    refine ⟨fun m σ H' => Same H H' ∧ ∃ h : Nat, σ = [some (.int n), some (.int h), some (.int (leastW h)), some (.int (leastW (h + 1)))] ∧ (h = 0 ∨ leastW h ≤ n) ∧ m + h = n, ⟨n, same_new np, 0, rfl, .inl rfl, rfl⟩, ?_⟩
    rintro m σ H' ⟨sm, h, rfl, h1, h2⟩
    refine ⟨_, rfl, _, rfl, _, _, rfl, rfl, _, rfl, ite2 (fun e => ?_) (fun e => ?_)⟩
    · have e1 : (leastW (h + 1) : Int) ≤ n := of_decide_eq_true e
      have e2 : leastW (h + 1) ≤ n := by omega
      have := leastW_lt (h + 1)
      refine ⟨_, fun _ _ z => z, ?_⟩
      refine ⟨_, rfl, _, _, rfl, rfl, _, rfl, _, rfl, _, rfl, _, _, rfl, rfl, _, _, _, rfl, ?_⟩
      refine ⟨m - 1, by omega, sm, h + 1, ?_, .inr e2, by omega⟩
      show [some (V.int n), some (V.int ((h : Int) + 1)), some (V.int (leastW (h + 1))), some (V.int ((leastW h : Int) + leastW (h + 1)))] = _
      rw [show ((leastW h : Int) + leastW (h + 1)) = ((leastW (h + 1 + 1) : Nat) : Int) by
        show _ = ((leastW (h + 1) + leastW h : Nat) : Int)
        omega]
      rfl
    · have e1 : ¬ (leastW (h + 1) : Int) ≤ n := fun z => e (decide_eq_true z)
      exact ⟨_, rfl, q h _ ⟨by omega, h1⟩ sm⟩
end

section
variable {P : Program} {w : World} {K : PySem.W.Frag} {mg : Str → Option Value} {base : Heap} {cMatchError cBadShape cBadCount cBadBalance cStem cBuilder : Addr}
def spTallest (K : PySem.W.Frag) (C : Addr) : Sp := fun vs H Q E => ∃ v n, vs = [v] ∧ TyX K H v (.type n) ∧ n ∈ kinds ∧
  (∀ (wd : Nat) (h : Nat) (H' : Hp), v = .int wd → wd ≤ 20000 → IsTall wd h → Same H H' → Q (.int h) H') ∧ ((¬ ∃ i : Int, v = .int i ∧ 0 ≤ i ∧ i ≤ 20000) → E (.ref C) none H)
theorem ok_tallest (T : Top K mg cMatchError cBadShape cBadCount cBadBalance cStem cBuilder) : Cl P w K mg base 3 "tallest" ["width"] (spTallest K cBadCount) := by
  have c_need_count := ok_need_count (P := P) (w := w) (base := base) T
  have c_tallest_of := ok_tallest_of (P := P) (w := w) (base := base) T
  refine T.d_tallest.ok sc_tallest (fun vs H Q E h => ?_) (fun f cdv A outer s H vs Q E hr h => ?_)
  · obtain ⟨v, n, rfl, _⟩ := h
    rfl
  · refine ⟨_, (pss_cons (ps_expr (pcT c_need_count hr (by decide) (takes_of rfl rfl rfl rfl) (pa_cons (pv 0) (pa_cons (C8.pe_gc (by rfl) T.v_MOST_NODES) pa_nil))))
      (pss_one (ps_ret (pcN c_tallest_of hr (by decide) (pa_cons (pv 0) pa_nil))))), ?_⟩
    obtain ⟨v, n, rfl, ty, hn, qy, qn⟩ := h
    refine ⟨_, rfl, v, 20000, n, rfl, ty, hn, ?_, qn⟩
    rintro ⟨i, rfl, h1, h2⟩
    obtain ⟨j, rfl⟩ : ∃ j : Nat, i = j := ⟨i.toNat, by omega⟩
    exact ⟨_, rfl, j, rfl, fun h H' t sm => qy j h H' rfl (by omega) t sm⟩
end

section
variable {P : Program} {w : World} {K : PySem.W.Frag} {mg : Str → Option Value} {base : Heap} {cMatchError cBadShape cBadCount cBadBalance cStem cBuilder : Addr}
def spLHeld (K : PySem.W.Frag) : Sp := fun vs H Q _ => ∃ v p, ∃ wd : Nat, vs = [v, .int wd] ∧ PartAt K H v p ∧ PartOk p wd ∧ wd ≤ 20000 ∧ ∀ H', Same H H' → Q (.bl true) H'
theorem ok__law_held (T : Top K mg cMatchError cBadShape cBadCount cBadBalance cStem cBuilder) : Cl P w K mg base 44 "_law_held" ["shape", "width"] (spLHeld K) := by
  have c__law_sizes := ok__law_sizes (P := P) (w := w) (base := base) T 41
  have c__law_tallest := ok__law_tallest (P := P) (w := w) (base := base) T
  have c_tallest := ok_tallest (P := P) (w := w) (base := base) T
  have c_is_shape := ok_is_shape (P := P) (w := w) (base := base) T
  have c_is_balanced := ok_is_balanced (P := P) (w := w) (base := base) T
  have c_width_of := ok_width_of (P := P) (w := w) (base := base) T
  have c_height_of := ok_height_of (P := P) (w := w) (base := base) T
  refine T.d__law_held.ok sc__law_held (fun vs H Q E h => ?_) (fun f cdv A outer s H vs Q E hr h => ?_)
  · obtain ⟨_, _, _, rfl, _⟩ := h
    rfl
  · refine ⟨_, (pss_cons (ps_if (pt_cmpR op_eq (pv 1) pe_int (nomark _)) (pss_one (ps_ret (pe_and (pe_cmpR (op_eqE hr.units) (pv 0) (pe_tup pa_nil) (nomark _)) (pe_one (pe_cmpR op_isBl (pcN c_is_shape hr (by decide) (pa_cons (pv 0) pa_nil)) pe_bl (nomark _)))))) pss_nil)
      (pss_cons (ps_set (i := 2) sc__law_held.nd rfl (.inl rfl) (pcN c__law_sizes hr (by decide) (pa_cons (pv 0) pa_nil)))
      (pss_cons (ps_if (PW.pt (pw_or (pt_cmpR op_isN (pv 2) pe_non (nomark _)) (pw_or (pt_cmpR op_ne (pe_ix ix_tup (pv 2) pe_int (fun _ _ => rfl)) (pv 1) (nomark _)) (pw_or (pt_cmpR op_gt (pe_ix ix_tup (pv 2) pe_int (fun _ _ => rfl)) (pcN c__law_tallest hr (by decide) (pa_cons (pv 1) pa_nil)) (nomark _)) (pw_or1 (pt_cmpR op_lt (pcN c_tallest hr (by decide) (pa_cons (pv 1) pa_nil)) (pe_ix ix_tup (pv 2) pe_int (fun _ _ => rfl)) (nomark _))))))) (pss_one (ps_ret pe_bl)) pss_nil)
      (pss_cons (ps_if (PW.pt (pw_or (pt_cmpR op_notBl (pcN c_is_shape hr (by decide) (pa_cons (pv 0) pa_nil)) pe_bl (nomark _)) (pw_or1 (pt_cmpR op_notBl (pcN c_is_balanced hr (by decide) (pa_cons (pv 0) pa_nil)) pe_bl (nomark _))))) (pss_one (ps_ret pe_bl)) pss_nil)
      (pss_one (ps_ret (pe_and (pe_cmpR op_eq (pcN c_width_of hr (by decide) (pa_cons (pv 0) pa_nil)) (pv 1) (nomark _)) (pe_one (pe_cmpR op_eq (pcN c_height_of hr (by decide) (pa_cons (pv 0) pa_nil)) (pe_ix ix_tup (pv 2) pe_int (fun _ _ => rfl)) (nomark _)))))))))), ?_⟩
    obtain ⟨v, p, wd, rfl, hp, ho, hw, q⟩ := h
    refine ⟨_, rfl, rfl, _, rfl, ?_⟩
    rcases ho with ⟨rfl, rfl⟩ | ⟨t, rfl, bt, rfl⟩
    · refine iteT ?_
      obtain ⟨a, rfl, ha⟩ : ∃ a, v = .ref a ∧ SqT K H a [] := by
        rcases hp with ⟨_, h⟩ | ⟨t, e, _⟩
        · exact h
        · cases e
      refine ⟨_, rfl, by show 0 ≤ sizeLine; decide, fun l nl => ?_⟩
      have S := same_new (o := .tup []) nl
      have ha1 := Same.seqT S ha
      refine ⟨l, true, rfl, sqT_of upd_same, .tup (xs := []) ha1, _, rfl, iteT ?_⟩
      refine ⟨_, rfl, .ref a, .other, rfl, .other (ty_t ha1) (by decide) (fun z => by cases z) (fun _ => ⟨a, [], rfl, ha1, by decide⟩), _, _, rfl, rfl, ?_⟩
      rw [decide_eq_false (show ¬ Th.other.good from fun g => by cases g.1)]
      exact q _ S
    · have r : RepTh K H v t := by
        rcases hp with ⟨e, _⟩ | ⟨t', e, h⟩
        · cases e
        · cases e
          exact h
      have p0 := bal_wid bt
      have g := bal_good bt hw
      have hh := bal_hgt bt hw
      rw [decide_eq_false (show ¬ V.int (t.wid : Int) = V.int 0 from fun z => by have := V.int.inj z; omega)]
      refine iteF ?_
      refine ⟨_, rfl, v, t, rfl, r, by omega, fun u H1 s1 z => ?_⟩
      rcases z with ⟨z, _⟩ | ⟨_, c, rfl, hT⟩
      · rw [bt] at z
        cases z
      refine ⟨_, rfl, rfl, _, rfl, iteF ?_⟩
      refine ⟨_, rfl, c, _, _, _, rfl, rfl, hT, atI_nat (j := 0) rfl, _, rfl, rfl, _, rfl, ?_⟩
      rw [decide_eq_true rfl]
      refine iteF ?_
      have le : ∀ h, IsTall t.wid h → t.hgt ≤ h := fun h tl => by
        refine Nat.le_of_not_lt fun l => ?_
        have := t.least_wid bt
        have := leastW_mono (show h + 1 ≤ t.hgt from l)
        have := tl.1
        omega
      refine ⟨_, rfl, c, _, _, _, rfl, rfl, hT, atI_nat (j := 1) rfl, _, rfl, t.wid, rfl, hw, fun h2 H2 tl2 s2 => ⟨_, _, rfl, rfl, _, rfl, ?_⟩⟩
      have l2 := le h2 tl2
      rw [decide_eq_false (show ¬ ((h2 : Int) < (t.hgt : Int)) by omega)]
      refine iteF ?_
      refine ⟨_, rfl, .int t.wid, "int", rfl, ty_int _, by decide, fun wd h3 H3 ew hw3 tl3 s3 => ?_, fun z => (z ⟨t.wid, rfl, by omega, by omega⟩).elim⟩
      obtain rfl : t.wid = wd := by
        have := V.int.inj ew
        omega
      have l3 := le h3 tl3
      have s23 := s2.trans s3
      refine ⟨_, rfl, c, _, _, _, rfl, rfl, Same.seqT s23 hT, atI_nat (j := 1) rfl, _, _, rfl, rfl, _, rfl, ?_⟩
      rw [decide_eq_false (show ¬ ((h3 : Int) < (t.hgt : Int)) by omega)]
      refine iteF ?_
      have s13 := s1.trans s23
      have r3 := r.keep (Keep.of s13)
      refine ⟨_, rfl, v, t, rfl, r3, _, _, rfl, rfl, _, rfl, ?_⟩
      rw [decide_eq_true g]
      refine iteF ?_
      refine ⟨_, rfl, v, t, rfl, r3, fun _ => ⟨_, _, rfl, rfl, _, rfl, ?_⟩, fun z => (z g).elim⟩
      rw [bt]
      refine iteF ?_
      refine ⟨_, rfl, v, t, rfl, r3, fun _ => ?_, fun z => (z g).elim⟩
      refine ⟨_, rfl, rfl, _, rfl, ?_⟩
      rw [decide_eq_true rfl]
      refine iteT ?_
      refine ⟨_, rfl, v, t, rfl, r3, fun _ => ?_, fun z => (z g).elim⟩
      refine ⟨_, rfl, c, _, _, _, rfl, rfl, Same.seqT s23 hT, atI_nat (j := 1) rfl, rfl, ?_⟩
      rw [decide_eq_true rfl]
      exact q H3 s13
end

section
variable {P : Program} {w : World} {K : PySem.W.Frag} {mg : Str → Option Value} {base : Heap} {cMatchError cBadShape cBadCount cBadBalance cStem cBuilder : Addr}
def EntOf (K : PySem.W.Frag) (H : Hp) (x : V) (t : Th) : Prop := ∃ a v, x = .ref a ∧ SqT K H a [v, .int (t.wid : Nat)] ∧ RepTh K H v t ∧ t.isBal = true ∧ t.wid ≤ 90
theorem ents_ts {K : PySem.W.Frag} {H : Hp} : ∀ {xs : List V}, EntsAt K H xs → ∃ ts, Paired (EntOf K H) xs ts
  | [], _ => ⟨[], .nil⟩
  | x :: xs, h => by
    obtain ⟨ts, p⟩ := ents_ts fun y hy => h y (List.mem_cons_of_mem _ hy)
    obtain ⟨a, v, t, h1⟩ := h x List.mem_cons_self
    exact ⟨t :: ts, .cons ⟨a, v, h1⟩ p⟩
def preW (ts : List Th) (j : Nat) : Nat := ((ts.take j).map Th.wid).sum
theorem preW_succ {ts : List Th} {j : Nat} {t : Th} (h : ts[j]? = some t) : preW ts (j + 1) = preW ts j + t.wid := by
  unfold preW
  rw [List.take_add_one, h]
  simp
theorem preW_le {ts : List Th} (h : ∀ t ∈ ts, t.wid ≤ 90) : ∀ j, j ≤ ts.length → preW ts j ≤ 90 * j
  | 0, _ => by simp [preW]
  | j + 1, hj => by
    have hg : ts[j]? = some ts[j] := List.getElem?_eq_getElem (by omega)
    rw [preW_succ hg]
    have := preW_le h j (by omega)
    have := h _ (List.getElem_mem (show j < ts.length by omega))
    omega
def spLAll (K : PySem.W.Frag) : Sp := fun vs H Q _ => ∃ l xs, vs = [.ref l] ∧ H l = some (.lst xs) ∧ 1 ≤ xs.length ∧ xs.length ≤ 200 ∧ EntsAt K H xs ∧ ∀ H', Same H H' → Q (.bl true) H'
theorem ok__law_all_joined (T : Top K mg cMatchError cBadShape cBadCount cBadBalance cStem cBuilder) : Cl P w K mg base 79 "_law_all_joined" ["held"] (spLAll K) := by
  have c__law_held := ok__law_held (P := P) (w := w) (base := base) T
  have c_joined_shapes := ok_joined_shapes (P := P) (w := w) (base := base) T
  have c_cut_shape := ok_cut_shape (P := P) (w := w) (base := base) T
  refine T.d__law_all_joined.ok sc__law_all_joined (fun vs H Q E h => ?_) (fun f cdv A outer s H vs Q E hr h => ?_)
  · obtain ⟨_, _, rfl, _⟩ := h
    rfl
  · refine ⟨_, (pss_cons (ps_asg (pe_ix ix_list (pv 0) pe_int (fun _ _ => rfl)) (pg_tup rfl (pgs_cons (pg_name (i := 1) sc__law_all_joined.nd rfl (.inl rfl)) (pgs_cons (pg_name (i := 2) sc__law_all_joined.nd rfl (.inl rfl)) pgs_nil))))
      (pss_cons (ps_for (passes_of rfl) rfl (pi_list (pe_slice sl_list (pv 0) (po_some pe_int) po_none)) (pg_tup rfl (pgs_cons (pg_name (i := 3) sc__law_all_joined.nd rfl (.inl rfl)) (pgs_cons (pg_name (i := 4) sc__law_all_joined.nd rfl (.inl rfl)) pgs_nil))) (pss_cons (ps_par (i := 1) (j := 2) (by rfl) sc__law_all_joined.nd rfl rfl (by decide) rfl rfl (pa_cons (pcN c_joined_shapes hr (by decide) (pa_cons (pv 1) (pa_cons (pv 3) pa_nil))) (pa_cons (pe_op op_add (pv 2) (pv 4)) pa_nil)) (by rfl))
      (pss_one (ps_if (pt_not (pt_val (pcN c__law_held hr (by decide) (pa_cons (pv 1) (pa_cons (pv 2) pa_nil))))) (pss_one (ps_ret pe_bl)) pss_nil))))
      (pss_cons (ps_for (passes_of rfl) rfl (pi_list (pe_slRev (pv 0) pe_int (pe_un un_neg pe_int))) (pg_tup rfl (pgs_cons (pg_name (i := 3) sc__law_all_joined.nd rfl (.inl rfl)) (pgs_cons (pg_name (i := 4) sc__law_all_joined.nd rfl (.inl rfl)) pgs_nil))) (pss_cons (ps_set (i := 5) sc__law_all_joined.nd rfl (.inl rfl) (pcN c_cut_shape hr (by decide) (pa_cons (pv 1) (pa_cons (pe_op op_sub (pv 2) (pv 4)) pa_nil))))
      (pss_cons (ps_if (PW.pt (pw_or (pt_not (pt_val (pcN c__law_held hr (by decide) (pa_cons (pe_ix ix_tup (pv 5) pe_int (fun _ _ => rfl)) (pa_cons (pe_op op_sub (pv 2) (pv 4)) pa_nil))))) (pw_or1 (pt_not (pt_val (pcN c__law_held hr (by decide) (pa_cons (pe_ix ix_tup (pv 5) pe_int (fun _ _ => rfl)) (pa_cons (pv 4) pa_nil)))))))) (pss_one (ps_ret pe_bl)) pss_nil)
      (pss_one (ps_par (i := 1) (j := 2) (by rfl) sc__law_all_joined.nd rfl rfl (by decide) rfl rfl (pa_cons (pe_ix ix_tup (pv 5) pe_int (fun _ _ => rfl)) (pa_cons (pe_op op_sub (pv 2) (pv 4)) pa_nil)) (by rfl))))))
      (pss_one (ps_ret pe_bl))))), ?_⟩
    obtain ⟨l, xs, rfl, hl, n1, n2, ents, q⟩ := h
    obtain ⟨ts, pts⟩ := ents_ts ents
    have lt := paired_len pts
    have w90 : ∀ t ∈ ts, t.wid ≤ 90 := fun t ht => by
      obtain ⟨j, hj⟩ := List.mem_iff_getElem?.mp ht
      have jl := (List.getElem?_eq_some_iff.mp hj).1
      obtain ⟨_, _, _, _, _, _, h⟩ := paired_at pts j xs[j] t (List.getElem?_eq_getElem (by omega)) hj
      exact h
    have at_ : ∀ (j : Nat) (x : V), xs[j]? = some x → ∃ t, ts[j]? = some t ∧ EntOf K H x t := fun j x hx => by
      have jl := (List.getElem?_eq_some_iff.mp hx).1
      exact ⟨ts[j], List.getElem?_eq_getElem (by omega), paired_at pts j _ _ hx (List.getElem?_eq_getElem (by omega))⟩
    have pos : ∀ (j : Nat) (t : Th), ts[j]? = some t → t.isBal = true ∧ t.wid ≤ 90 := fun j t hj => by
      have jl := (List.getElem?_eq_some_iff.mp hj).1
      obtain ⟨_, _, _, _, _, h⟩ := paired_at pts j xs[j] t (List.getElem?_eq_getElem (by omega)) hj
      exact h
    have pw : ∀ j, j ≤ ts.length → preW ts j ≤ 18000 := fun j hj => by
      have := preW_le w90 j hj
      omega
    obtain ⟨x0, hx0⟩ : ∃ x0, xs[0]? = some x0 := ⟨xs[0], List.getElem?_eq_getElem (by omega)⟩
    obtain ⟨t0, ht0, a0, v0, rfl, hT0, r0, b0, w0⟩ := at_ 0 x0 hx0
    have p1 : preW ts 1 = t0.wid := by
      rw [preW_succ ht0]
      simp [preW]
    have p0 := bal_wid b0
    refine ⟨_, rfl, l, xs, _, _, rfl, rfl, sqL_of hl, atI_nat (j := 0) hx0, a0, _, rfl, hT0, rfl, _, _, rfl, _, _, rfl, rfl, ?_⟩
    refine ⟨_, rfl, 1, rfl, l, xs, rfl, sqL_of hl, fun L1 nL => ?_⟩
    have ec : cutV xs (some 1) none = xs.drop 1 := by
      rw [show (some 1 : Option Int) = some ((1 : Nat) : Int) from rfl, cut_from]
    rw [ec]
    have S1 := same_new (o := .lst (xs.drop 1)) nL
    have hL1 : upd H L1 (.lst (xs.drop 1)) L1 = some (.lst (xs.drop 1)) := upd_same
    generalize upd H L1 (.lst (xs.drop 1)) = H1 at S1 hL1 ⊢
    refine ⟨L1, rfl, ⟨_, sqL_of hL1⟩, for_list (xs := xs.drop 1) (fun i σ H' => Same H1 H' ∧ ∃ u t y3 y4, σ = [some (.ref l), some u, some (.int (preW ts (i + 1) : Nat)), y3, y4, none] ∧ RepTh K H' u t ∧ t.isBal = true ∧ t.wid = preW ts (i + 1)) ⟨Same.refl _, v0, t0, none, none, by rw [p1]; rfl, r0.keep (Keep.of S1), b0, p1.symm⟩ (fun i σ H' _ ⟨sm, _⟩ => sqL_of (sm _ _ hL1)) ?_ ?_⟩
    · rintro i x σ H' hx ⟨sm, u, t, y3, y4, rfl, r, bt, wt⟩
      rw [List.getElem?_drop] at hx
      obtain ⟨t2, ht2, a2, v2, rfl, hT2, r2, b2, w2⟩ := at_ (1 + i) x hx
      rw [Nat.add_comm 1 i] at ht2
      have s1 := S1.trans sm
      have jl := (List.getElem?_eq_some_iff.mp ht2).1
      have pwi := pw (i + 1 + 1) (by omega)
      have es := preW_succ ht2
      refine ⟨a2, _, rfl, Same.seqT s1 hT2, rfl, _, _, rfl, _, _, rfl, rfl, ?_⟩
      have g1 := bal_good bt (by omega)
      have g2 := bal_good b2 (by omega)
      obtain ⟨jb, jw⟩ := joinT_ok bt b2 (by omega) (by omega)
      refine ⟨_, rfl, _, rfl, u, v2, t, t2, rfl, r, r2.keep (Keep.of s1), fun n => (n g1).elim, (fun _ z => by rw [bt] at z; cases z), fun _ _ n => (n g2).elim, (fun _ _ _ z => by rw [b2] at z; cases z), (fun _ _ _ _ z => by omega), fun _ _ _ _ _ u' H2 s2 r' => ?_⟩
      refine ⟨_, rfl, _, rfl, _, _, rfl, rfl, ?_⟩
      refine ⟨_, _, rfl, ?_⟩
      have ew : (preW ts (i + 1) : Int) + (t2.wid : Int) = ((preW ts (i + 1 + 1) : Nat) : Int) := by omega
      refine ⟨_, rfl, _, rfl, u', some (joinT t t2), preW ts (i + 1 + 1), congrArg (fun z => [u', V.int z]) ew, .inr ⟨_, rfl, r'⟩, .inr ⟨_, rfl, jb, by omega⟩, by omega, fun H3 s3 => ⟨_, rfl, iteF ?_⟩⟩
      refine ⟨sm.trans (s2.trans s3), u', _, some v2, some (.int (t2.wid : Nat)), ?_, r'.keep (Keep.of s3), jb, by omega⟩
      show [some (V.ref l), some u', some (.int ((preW ts (i + 1) : Int) + (t2.wid : Int))), some v2, some (.int (t2.wid : Nat)), none] = _
      rw [ew]
    · rintro σ H' ⟨sm, u, t, y3, y4, rfl, r, bt, wt⟩
      rw [List.length_drop, show xs.length - 1 + 1 = xs.length by omega] at wt ⊢
      have s1 := S1.trans sm
      refine ⟨_, rfl, rfl, _, rfl, rfl, l, xs, rfl, sqL_of (s1 _ _ hl), fun L2 nL2 => ?_⟩
      have S2 := same_new (o := .lst (xs.drop 1).reverse) nL2
      have hL2 : upd H' L2 (.lst (xs.drop 1).reverse) L2 = some (.lst (xs.drop 1).reverse) := upd_same
      generalize upd H' L2 (.lst (xs.drop 1).reverse) = H2 at S2 hL2 ⊢
      have s2 := s1.trans S2
      refine ⟨L2, rfl, ⟨_, sqL_of hL2⟩, for_list (xs := (xs.drop 1).reverse) (fun i σ H' => Same H2 H' ∧ ∃ u t y3 y4 y5, σ = [some (.ref l), some u, some (.int (preW ts (xs.length - i) : Nat)), y3, y4, y5] ∧ RepTh K H' u t ∧ t.isBal = true ∧ t.wid = preW ts (xs.length - i)) ⟨Same.refl _, u, t, _, _, none, rfl, r.keep (Keep.of S2), bt, wt⟩ (fun i σ H' _ ⟨sm, _⟩ => sqL_of (sm _ _ hL2)) ?_ ?_⟩
      · rintro i x σ H3 hx ⟨sm3, u, t, y3, y4, y5, rfl, r, bt, wt⟩
        have il := (List.getElem?_eq_some_iff.mp hx).1
        rw [List.length_reverse, List.length_drop] at il
        rw [List.getElem?_reverse (by rw [List.length_drop]; exact il), List.length_drop, List.getElem?_drop, show 1 + (xs.length - 1 - 1 - i) = xs.length - (i + 1) by omega] at hx
        obtain ⟨t2, ht2, a2, v2, rfl, hT2, r2, b2, w2⟩ := at_ _ x hx
        have s3 := s2.trans sm3
        have es := preW_succ ht2
        rw [show xs.length - (i + 1) + 1 = xs.length - i by omega] at es
        have pwi := pw (xs.length - i) (by omega)
        refine ⟨a2, _, rfl, Same.seqT s3 hT2, rfl, _, _, rfl, _, _, rfl, rfl, ?_⟩
        have g1 := bal_good bt (by omega)
        have em : (preW ts (xs.length - i) : Int) - (t2.wid : Int) = ((preW ts (xs.length - (i + 1)) : Nat) : Int) := by omega
        have pp : 1 ≤ preW ts (xs.length - (i + 1)) := by
          obtain ⟨k, hk⟩ : ∃ k, xs.length - (i + 1) = k + 1 := ⟨xs.length - (i + 1) - 1, by omega⟩
          rw [hk]
          have mono : ∀ k, k + 1 ≤ ts.length → preW ts 1 ≤ preW ts (k + 1) := fun k => by
            induction k with
            | zero => exact fun _ => Nat.le_refl _
            | succ k ih =>
              intro h
              have hg : ts[k + 1]? = some ts[k + 1] := List.getElem?_eq_getElem (by omega)
              rw [preW_succ hg]
              have := ih (by omega)
              omega
          have := mono k (by omega)
          omega
        obtain ⟨o1, o2⟩ := cutT_ok bt (show preW ts (xs.length - (i + 1)) ≤ t.wid by omega) (by omega)
        rw [show t.wid - preW ts (xs.length - (i + 1)) = t2.wid by omega] at o2
        refine ⟨_, rfl, _, rfl, _, rfl, _, _, rfl, rfl, u, _, t, "int", rfl, r, ty_int _, by decide, fun n => (n g1).elim, (fun _ z => by rw [bt] at z; cases z), fun _ _ n => (n ⟨_, rfl, by omega, by omega⟩).elim, fun _ _ m' em' hm' c u1 u2 H4 s4 hT4 q1 q2 => ?_⟩
        obtain rfl : preW ts (xs.length - (i + 1)) = m' := by
          have := V.int.inj em'
          omega
        have s34 := s3.trans s4
        refine ⟨_, rfl, c, _, _, _, rfl, rfl, hT4, atI_nat (j := 0) rfl, _, rfl, _, rfl, _, _, rfl, rfl, u1, _, _, congrArg (fun z => [u1, V.int z]) em, q1, o1, by omega, fun H5 s5 => ⟨_, rfl, iteF ?_⟩⟩
        refine ⟨_, rfl, c, _, _, _, rfl, rfl, Same.seqT s5 hT4, atI_nat (j := 1) rfl, _, rfl, u2, _, t2.wid, rfl, q2.same s5, o2, by omega, fun H6 s6 => ⟨_, rfl, iteF ?_⟩⟩
        have s46 := s5.trans s6
        refine ⟨_, rfl, c, _, _, _, rfl, rfl, Same.seqT s46 hT4, atI_nat (j := 0) rfl, _, rfl, _, rfl, _, _, rfl, rfl, ?_⟩
        refine ⟨_, _, rfl, ?_⟩
        obtain ⟨t', r', b', w'⟩ : ∃ t', RepTh K H6 u1 t' ∧ t'.isBal = true ∧ t'.wid = preW ts (xs.length - (i + 1)) := by
          rcases o1 with ⟨z, _⟩ | ⟨t', e, b', w'⟩
          · omega
          · rcases q1 with ⟨z, _⟩ | ⟨t3, e3, r3⟩
            · rw [z] at e; cases e
            · rw [e] at e3
              cases e3
              exact ⟨t', r3.keep (Keep.of s46), b', w'⟩
        refine ⟨sm3.trans (s4.trans s46), u1, t', some v2, some (.int (t2.wid : Nat)), some (.ref c), ?_, r', b', w'⟩
        show [some (V.ref l), some u1, some (.int ((preW ts (xs.length - i) : Int) - (t2.wid : Int))), some v2, some (.int (t2.wid : Nat)), some (.ref c)] = _
        rw [em]
      · rintro σ H3 ⟨sm3, u, t, y3, y4, y5, rfl, r, bt, wt⟩
        exact q H3 (s2.trans sm3)
end

section
variable {P : Program} {w : World} {K : PySem.W.Frag} {mg : Str → Option Value} {base : Heap} {cMatchError cBadShape cBadCount cBadBalance cStem cBuilder : Addr}
theorem ents_dp {K : PySem.W.Frag} {H : Hp} : ∀ {xs : List V}, EntsAt K H xs → ∃ ds, DpAll K H xs ds ∧ PyData.canLayAll0 ds = true ∧ PyData.depthAll ds ≤ 25 ∧ ds.length = xs.length
  | [], _ => ⟨[], .nil, by simp [PyData.canLayAll0], by simp [PyData.depthAll], rfl⟩
  | x :: xs, h => by
    obtain ⟨ds, h1, h2, h3, h4⟩ := ents_dp fun y hy => h y (List.mem_cons_of_mem _ hy)
    obtain ⟨a, v, t, rfl, hT, r, b, w⟩ := h x List.mem_cons_self
    have hh := bal_hgt b (by omega)
    have hd := shD_depth t
    refine ⟨.tuple [shD t, .int (t.wid : Nat)] :: ds, .cons (.tup hT (.cons (r.dp (t.bal_sh b)) (.cons (.int _) .nil))) h1, ?_, ?_, by rw [List.length_cons, h4, List.length_cons]⟩
    · simp [PyData.canLayAll0, PyData.canLay0, shD_lay, h2]
    · simp only [PyData.depthAll, PyData.depth]
      omega
def spLaw (K : PySem.W.Frag) : Sp := fun vs H Q _ => ∃ (a : Addr) (ns : List Int), vs = [.ref a] ∧ SqL K H a (ns.map V.int) ∧ ns.length ≤ 63 ∧ (∀ z ∈ ns, z.natAbs.log2 ≤ 1048576) ∧ ∀ H', Q (.bl true) H'
theorem ok_law {fa : Addr} {fd : FuncData} (F : Fun K "law" "law" s_law fa fd) (T : Top K mg cMatchError cBadShape cBadCount cBadBalance cStem cBuilder) : FnOk P w K mg base (L2.CX P w) 82 fa fd ["script"] (spLaw K) := by
  have c__law_feed := ok__law_feed (P := P) (w := w) (base := base) T
  have c__law_draw := ok__law_draw (P := P) (w := w) (base := base) T
  have c__law_any_balanced := ok__law_any_balanced (P := P) (w := w) (base := base) T
  have c__law_sizes := ok__law_sizes (P := P) (w := w) (base := base) T 41
  have c__law_deed := ok__law_deed (P := P) (w := w) (base := base) T
  have c__law_held := ok__law_held (P := P) (w := w) (base := base) T
  have c__law_all_joined := ok__law_all_joined (P := P) (w := w) (base := base) T
  refine F.okX sc_law (fun vs H Q E h => ?_) (fun cdv A outer s H vs Q E hr h => ?_)
  · obtain ⟨a, ns, rfl, _⟩ := h
    rfl
  · have f := fa
    refine ⟨_, (pss_cons (ps_set (i := 1) sc_law.nd rfl (.inl rfl) (pcN c__law_feed hr (by decide) (pa_cons (pv 0) (pa_cons pe_int pa_nil))))
      (pss_cons (ps_set (i := 2) sc_law.nd rfl (.inr rfl) (pe_lst pa_nil))
      (pss_cons (ps_for (passes_of rfl) rfl (pi_range1 (by rfl) T.n_range (pa_cons (pe_op op_add pe_int (pcN c__law_draw hr (by decide) (pa_cons (pv 1) (pa_cons pe_int pa_nil)))) pa_nil)) (pg_name (i := 3) sc_law.nd rfl (.inl rfl)) (pss_cons (ps_set (i := 4) sc_law.nd rfl (.inl rfl) (pcN c__law_any_balanced hr (by decide) (pa_cons (pv 1) (pa_cons pe_int pa_nil))))
      (pss_one (ps_expr (pe_bm PySem.F.plainAttrs_list PySem.F.slot_list_append PySem.F.type_list_append mt_append (pv 2) (pa_cons (pe_tup (pa_cons (pv 4) (pa_cons (pe_ix ix_tup (pcN c__law_sizes hr (by decide) (pa_cons (pv 4) pa_nil)) pe_int (fun _ _ => rfl)) pa_nil))) pa_nil))))))
      (pss_cons (ps_for (passes_of rfl) rfl (pi_range2 (by rfl) T.n_range (pa_cons pe_int (pa_cons (pe_callB (call_max2 rfl) (by rfl) T.n_max (by decide +kernel) (pa_cons pe_int (pa_cons (pe_callB (call_min2 rfl) (by rfl) T.n_min (by decide +kernel) (pa_cons pe_int (pa_cons (pe_callB call_len_seq (by rfl) T.n_len (by decide +kernel) (pa_cons (pv 0) pa_nil)) pa_nil))) pa_nil))) pa_nil))) (pg_name (i := 5) sc_law.nd rfl (.inl rfl)) (pss_cons (ps_asg (pcN c__law_deed hr (by decide) (pa_cons (pcN c__law_feed hr (by decide) (pa_cons (pv 0) (pa_cons (pv 5) pa_nil))) (pa_cons (pv 2) pa_nil))) (pg_tup rfl (pgs_cons (pg_name (i := 6) sc_law.nd rfl (.inr rfl)) (pgs_cons (pg_name (i := 7) sc_law.nd rfl (.inl rfl)) (pgs_cons (pg_name (i := 8) sc_law.nd rfl (.inl rfl)) (pgs_cons (pg_name (i := 9) sc_law.nd rfl (.inl rfl)) pgs_nil))))))
      (pss_cons (ps_if (PW.pt (pw_or (pt_cmpR (op_neD hr.units) (pv 7) (pv 8) (nomark _)) (pw_or1 (pt_cmpR op_ne (pe_callB call_len_seq (by rfl) T.n_len (by decide +kernel) (pa_cons (pv 7) pa_nil)) (pe_callB call_len_seq (by rfl) T.n_len (by decide +kernel) (pa_cons (pv 9) pa_nil)) (nomark _))))) (pss_one (ps_ret pe_bl)) pss_nil)
      (pss_cons (ps_set (i := 2) sc_law.nd rfl (.inr rfl) (pe_lc (own := [("at", 11)]) (g := gName 11) (by rfl) sc_law.nd (pi_range1 (by rfl) T.n_range (pa_cons (pe_callB call_len_seq (by rfl) T.n_len (by decide +kernel) (pa_cons (pv 2) pa_nil)) pa_nil)) (blkOk_by (own := [("at", 11)]) (N := nm_law) (sc := defScope s_law) (by decide +kernel)) (fun _ _ _ _ _ => (pg_name (i := 11) sc_law.nd rfl (.inl rfl))) (fun _ _ _ _ _ => (pts_one (pt_cmpR (bNotIn rfl) (pv 11) (pv 6) rfl))) (fun _ _ _ _ _ => (pe_ix (bIxL rfl) (pv 2) (pv 11) (fun _ _ => rfl)))))
      (pss_cons (ps_for (passes_of rfl) rfl (pi_zip (by rfl) T.n_zip (pa_cons (pv 7) (pa_cons (pv 9) pa_nil))) (pg_tup rfl (pgs_cons (pg_name (i := 4) sc_law.nd rfl (.inl rfl)) (pgs_cons (pg_name (i := 10) sc_law.nd rfl (.inl rfl)) pgs_nil))) (pss_cons (ps_if (pt_not (pt_val (pcN c__law_held hr (by decide) (pa_cons (pv 4) (pa_cons (pv 10) pa_nil))))) (pss_one (ps_ret pe_bl)) pss_nil)
      (pss_one (ps_if (pt_cmpR op_gt (pv 10) pe_int (nomark _)) (pss_one (ps_expr (pe_bm PySem.F.plainAttrs_list PySem.F.slot_list_append PySem.F.type_list_append mt_append (pv 2) (pa_cons (pe_tup (pa_cons (pv 4) (pa_cons (pv 10) pa_nil))) pa_nil)))) pss_nil))))
      (pss_one (ps_if (pt_cmpR (op_eqD hr.units) (pv 2) (pe_lst pa_nil) (nomark _)) (pss_one (ps_expr (pe_bm PySem.F.plainAttrs_list PySem.F.slot_list_append PySem.F.type_list_append mt_append (pv 2) (pa_cons (pe_tup (pa_cons pe_non (pa_cons pe_int pa_nil))) pa_nil)))) pss_nil)))))))
      (pss_one (ps_ret (pcN c__law_all_joined hr (by decide) (pa_cons (pv 2) pa_nil)))))))), ?_⟩
    obtain ⟨a, ns, rfl, hS, hlen, hb, q⟩ := h
    have ll : ∀ z, z < 200 → z ≤ sizeLine := fun z h => Nat.le_trans (Nat.le_of_lt h) (by decide)
    refine ⟨_, rfl, a, ns, 0, rfl, hS, hb, by decide, by decide, fun H1 p s1 np F1 => ?_⟩
    refine ⟨ll 0 (by decide), fun hd nd => ?_⟩
    have S2 := same_new (o := .lst []) nd
    have h2 : upd H1 hd (.lst []) hd = some (.lst []) := upd_same
    have F2 := F1.new (o := .lst []) nd
    have ndp : hd ≠ p := F1.ne nd
    have nd0 : H hd = none := s1.free nd
    have s2 := s1.trans S2
    generalize upd H1 hd (.lst []) = H2 at S2 h2 F2 s2 ⊢
    refine ⟨_, rfl, p, 0, 2, rfl, F2, by decide, by decide, by decide, fun H3 g3 b3 F3 g30 g31 => ⟨_, _, rfl, rfl, ?_⟩⟩
    have s3 : Same H H3 := Same.but s2 np b3
    have h3 := b3 hd _ ndp h2
    have ap : ∀ {H' : Hp} {D : Addr} {xs : List V} {x : V}, H' D = some (.lst xs) → EntsAt K H' xs → EntAt K H' x → EntsAt K (upd H' D (.lst (xs ++ [x]))) (xs ++ [x]) := fun {H' D xs x} hD e ex => by
      have kd := Keep.upd (ys := xs ++ [x]) hD
      intro y hy
      rcases List.mem_append.mp hy with hy | hy
      · exact (e.keep kd) y hy
      · rw [List.mem_singleton.mp hy]
        exact ex.keep kd
    refine ⟨_, rfl, by omega, by omega, for_range (lo := 0) (n := (1 + g3).toNat) (fun i σ H' => Same H H' ∧ FeedAt H' p (1 + 40000 * i) ∧ ∃ xs x3 x4, H' hd = some (.lst xs) ∧ xs.length = i ∧ EntsAt K H' xs ∧ σ = [some (.ref a), some (.ref p), some (.ref hd), x3, x4, none, none, none, none, none, none, none]) ⟨s3, F3, [], none, none, h3, rfl, (fun x hx => nomatch hx), rfl⟩ ?_ ?_⟩
    · rintro i σ H' hi ⟨sm, F4, xs, x3, x4, h4, lx, ents, rfl⟩
      refine ⟨_, rfl, p, _, 20, rfl, F4, by omega, by decide, by decide, fun H5 v t b5 F5 R bt h14 w20 => ?_⟩
      have h5 := b5 hd _ ndp h4
      have ents5 := ents.keep (F4.keeps b5 F5)
      have s5 : Same H H5 := Same.but sm np b5
      refine ⟨_, rfl, .inl ⟨rfl, _, sqL_of h5⟩, _, rfl, _, rfl, v, t, rfl, R, by omega, fun u H6 s6 z => ?_⟩
      rcases z with ⟨z, _⟩ | ⟨_, c, rfl, hT⟩
      · rw [bt] at z
        cases z
      refine ⟨c, _, _, _, rfl, rfl, hT, atI_nat (j := 0) rfl, ll 2 (by decide), fun e ne => ?_⟩
      have S7 := same_new (o := .tup [v, .int (t.wid : Nat)]) ne
      have f7 : upd H6 e (.tup [v, .int (t.wid : Nat)]) e = some (.tup [v, .int (t.wid : Nat)]) := upd_same
      generalize upd H6 e (.tup [v, .int (t.wid : Nat)]) = H7 at S7 f7 ⊢
      have s67 := s6.trans S7
      have h7 := s67 _ _ h5
      have ents7 := ents5.keep (Keep.of s67)
      have e7 : EntAt K H7 (.ref e) := ⟨e, v, t, rfl, sqT_of f7, R.keep (Keep.of s67), bt, by omega⟩
      refine ⟨hd, xs, _, rfl, rfl, h7, Nat.lt_of_lt_of_le (show xs.length < 10 by omega) (by decide), ?_⟩
      refine ⟨same_upd2 nd0 (s5.trans s67), ((F5.same s67).mono (by omega)).keep (fun o z => by rw [upd_ne (Ne.symm ndp)]; exact z), xs ++ [.ref e], _, _, upd_same, by rw [List.length_append, lx]; rfl, ap h7 ents7 e7, rfl⟩
    · rintro σ H' ⟨sm, F4, xs, x3, x4, h4, lx, ents, rfl⟩
      refine ⟨_, rfl, a, ns.map V.int, rfl, .inl (sm.seq hS), _, _, rfl, _, _, rfl, ?_⟩
      have j63 : ∀ L : Int, (if (if L < 63 then L else 63) > 7 then (if L < 63 then L else 63) else 7) ≤ 63 ∧ 0 ≤ (if (if L < 63 then L else 63) > 7 then (if L < 63 then L else 63) else 7) := fun L => by
        constructor <;> split <;> split <;> omega
      have jj := j63 ((ns.map V.int).length : Int)
      obtain ⟨J, eJ⟩ : ∃ J : Int, J = (if (if ((ns.map V.int).length : Int) < 63 then ((ns.map V.int).length : Int) else 63) > 7 then (if ((ns.map V.int).length : Int) < 63 then ((ns.map V.int).length : Int) else 63) else 7) := ⟨_, rfl⟩
      rw [← eJ] at jj
      refine ⟨1, J, by rw [eJ], by omega, for_range (lo := 1) (n := (J - 1).toNat) (fun i σ H' => Same H H' ∧ ∃ (D : Addr) (xs : List V) (x1 x3 x4 x5 x6 x7 x8 x9 x10 x11 : Option V), H D = none ∧ H' D = some (.lst xs) ∧ 1 ≤ xs.length ∧ xs.length ≤ 2 + 2 * i ∧ EntsAt K H' xs ∧ σ = [some (.ref a), x1, some (.ref D), x3, x4, x5, x6, x7, x8, x9, x10, x11]) ⟨sm, hd, xs, _, _, _, none, none, none, none, none, none, none, nd0, h4, by omega, by omega, ents, rfl⟩ ?_ ?_⟩
      · rintro i σ H5 hi ⟨sm5, D, ys, x1, x3, x4, x5, x6, x7, x8, x9, x10, x11, nD0, h5, l1, l2, ents5, rfl⟩
        refine ⟨_, rfl, _, rfl, a, ns, 1 + (i : Int), rfl, sm5.seq hS, hb, by omega, by omega, fun H6 p6 s6 np6 F6 => ?_⟩
        have h6 := s6 _ _ h5
        have nDp : D ≠ p6 := fun z => by rw [z, np6] at h5; cases h5
        refine ⟨_, rfl, p6, 0, D, ys, rfl, F6, by decide, h6, nDp, l1, by omega, ents5.keep (Keep.of s6), fun H7 r g um ua wl gs us us2 ps ws b7 hT hg hm ha hw P1 P2 P3 lp lg => ?_⟩
        refine ⟨r, _, rfl, hT, rfl, _, _, rfl, _, _, rfl, _, _, rfl, _, _, rfl, rfl, ?_⟩
        have s57 : Same H5 H7 := Same.but s6 np6 b7
        have s7 : Same H H7 := sm5.trans s57
        have h7 := s57 _ _ h5
        have ents7 := ents5.keep (Keep.of s57)
        have lpw := paired_len P3
        have lpu := paired_len P1
        have dl := dp_parts P1 P3
        have dl2 := dp_parts P2 P3
        have lay : (PyData.list (ps.map paD)).canLay0 = true := by
          have := parts_lay ps
          simp [PyData.canLay0, this]
        have dep : (PyData.list (ps.map paD)).depth ≤ 64 := by
          have := parts_depth P3
          simp only [PyData.depth]
          omega
        refine ⟨_, rfl, _, rfl, _, _, .lst (sqL_of hm) dl, .lst (sqL_of ha) dl2, shaped_of lay dep, shaped_of lay dep, ?_⟩
        rw [SeqAt.eqv_refl _ lay]
        refine ⟨_, rfl, iteF ?_⟩
        refine ⟨_, rfl, um, us, rfl, .inl (sqL_of hm), _, rfl, wl, nVs ws, rfl, .inl (sqL_of hw), rfl, _, rfl, ?_⟩
        rw [show us.length = (nVs ws).length by unfold nVs; rw [List.length_map]; omega, decide_eq_true rfl]
        refine iteF ?_
        refine ⟨_, rfl, D, ys, rfl, .inl (sqL_of h7), _, rfl, by omega, by omega, fun D2 nD2 => lc_range (lo := 0) (n := (ys.length : Int).toNat) (fun j H' => ∃ acc, Mk H7 D2 acc H' ∧ acc.length ≤ j ∧ EntsAt K H' acc) ⟨[], Mk.start nD2, Nat.zero_le _, (fun x hx => nomatch hx)⟩ ?_ ?_⟩
        · rintro j H' hj ⟨acc, M, la, ea⟩
          rw [Int.toNat_natCast] at hj
          have flat : (gs.map V.int).all flatV = true := by
            rw [List.all_map]
            exact List.all_eq_true.mpr fun z _ => rfl
          refine ⟨rfl, _, rfl, _, rfl, g, _, rfl, .inl (sqL_of (M.same _ _ hg)), rfl, flat, _, rfl, ?_⟩
          refine ite2 (fun _ => ?_) (fun _ => ⟨acc, M, by omega, ea⟩)
          have ex : EntAt K H' ys[j] := (ents7 _ (List.getElem_mem hj)).keep M.keep
          refine ⟨_, rfl, _, rfl, D, ys, _, ys[j], rfl, rfl, sqL_of (M.same _ _ h7), ?_, acc, M.at_, Nat.lt_of_lt_of_le (show acc.length < 1000 by omega) (by decide), acc ++ [ys[j]], M.push nD2 _, by rw [List.length_append]; show acc.length + 1 ≤ j + 1; omega, ap M.at_ ea ex⟩
          show atI ys (0 + (j : Int)) = _
          rw [show (0 : Int) + (j : Int) = (j : Int) by omega]
          exact atI_nat (List.getElem?_eq_getElem hj)
        rintro H8 ⟨acc, M, la, ea⟩
        rw [Int.toNat_natCast] at la
        have nD20 : H D2 = none := s7.free nD2
        have s78 := M.same
        have ndm : um ≠ D2 := fun z => by rw [z, nD2] at hm; cases hm
        have ndw : wl ≠ D2 := fun z => by rw [z, nD2] at hw; cases hw
        refine ⟨_, rfl, _, rfl, um, wl, us, nVs ws, rfl, sqL_of (s78 _ _ hm), sqL_of (s78 _ _ hw), RZ.for_zipL (by unfold nVs; rw [List.length_map]; omega) (fun j σ H' => Same H7 H' ∧ ∃ (zs : List V) (y4 y10 : Option V), H' D2 = some (.lst zs) ∧ zs.length ≤ ys.length + j ∧ EntsAt K H' zs ∧ σ = [some (.ref a), x1, some (.ref D2), x3, y4, some (.int (1 + (i : Int))), some (.ref g), some (.ref um), some (.ref ua), some (.ref wl), y10, x11]) ⟨s78, acc, _, _, M.at_, by omega, ea, rfl⟩ (fun j σ H' ⟨sm8, _⟩ => ⟨sqL_of (sm8 _ _ hm), sqL_of (sm8 _ _ hw)⟩) ?_ ?_⟩
        · rintro j u y Tt σ H9 hu hy ⟨sm9, zs, y4, y10, h9, lz, e9, rfl⟩ nT
          have jl := (List.getElem?_eq_some_iff.mp hu).1
          obtain ⟨pp, hpp⟩ : ∃ pp, ps[j]? = some pp := ⟨ps[j], List.getElem?_eq_getElem (by omega)⟩
          obtain ⟨ww, hww⟩ : ∃ ww, ws[j]? = some ww := ⟨ws[j], List.getElem?_eq_getElem (by omega)⟩
          have ey : y = .int (ww : Nat) := by
            unfold nVs at hy
            rw [List.getElem?_map, hww] at hy
            cases hy
            rfl
          subst ey
          have pa := paired_at P1 j u pp hu hpp
          have po := paired_at P3 j pp ww hpp hww
          have ST := same_new (o := .tup [u, .int (ww : Nat)]) nT
          have fT : upd H9 Tt (.tup [u, .int (ww : Nat)]) Tt = some (.tup [u, .int (ww : Nat)]) := upd_same
          have hT9 := ST _ _ h9
          have e10 := e9.keep (Keep.of ST)
          have s710 := sm9.trans ST
          generalize upd H9 Tt (.tup [u, .int (ww : Nat)]) = H10 at ST fT hT9 e10 s710 ⊢
          refine ⟨Tt, _, rfl, sqT_of fT, rfl, _, _, rfl, _, _, rfl, rfl, ?_⟩
          refine ⟨_, rfl, _, rfl, u, pp, ww, rfl, pa.keep (Keep.of s710), po.1, by have := po.2; omega, fun H11 s11 => ⟨_, rfl, iteF ?_⟩⟩
          have h11 := s11 _ _ hT9
          have e11 := e10.keep (Keep.of s11)
          have s711 := s710.trans s11
          refine ⟨_, rfl, _, _, rfl, rfl, _, rfl, ite2 (fun e => ?_) (fun _ => ?_)⟩
          · have wpos : (0 : Int) < (ww : Int) := of_decide_eq_true e
            obtain ⟨t, rt, bt, wt⟩ : ∃ t, RepTh K H11 u t ∧ t.isBal = true ∧ t.wid = ww := by
              rcases po.1 with ⟨z, _⟩ | ⟨t, e, b, w'⟩
              · omega
              · rcases pa with ⟨z, _⟩ | ⟨t', e', r⟩
                · rw [z] at e; cases e
                · rw [e] at e'
                  cases e'
                  exact ⟨t, r.keep (Keep.of s711), b, w'⟩
            refine ⟨_, rfl, .inl ⟨rfl, _, sqL_of h11⟩, _, rfl, _, rfl, ll 2 (by decide), fun c nc => ?_⟩
            have S12 := same_new (o := .tup [u, .int (ww : Nat)]) nc
            have f12 : upd H11 c (.tup [u, .int (ww : Nat)]) c = some (.tup [u, .int (ww : Nat)]) := upd_same
            generalize upd H11 c (.tup [u, .int (ww : Nat)]) = H12 at S12 f12 ⊢
            have h12 := S12 _ _ h11
            have ee : EntAt K H12 (.ref c) := ⟨c, u, t, rfl, sqT_of (by rw [f12, wt]), rt.keep (Keep.of S12), bt, by have := po.2; omega⟩
            refine ⟨D2, zs, _, rfl, rfl, h12, Nat.lt_of_lt_of_le (show zs.length < 1000 by omega) (by decide), ?_⟩
            exact ⟨same_upd2 nD2 (s711.trans S12), zs ++ [.ref c], _, _, upd_same, by rw [List.length_append]; show zs.length + 1 ≤ ys.length + (j + 1); omega, ap h12 (e11.keep (Keep.of S12)) ee, rfl⟩
          · exact ⟨s711, zs, _, _, h11, by omega, e11, rfl⟩
        rintro σ H9 ⟨sm9, zs, y4, y10, h9, lz, e9, rfl⟩
        have s9 := s7.trans sm9
        obtain ⟨ds, dz, d1, d2, d3⟩ := ents_dp e9
        refine ⟨_, rfl, ll 0 (by decide), fun em nem => ?_⟩
        have S10 := same_new (o := .lst []) nem
        have dz10 := (ents_dp (e9.keep (Keep.of S10)))
        have h10 := S10 _ _ h9
        have e10 := e9.keep (Keep.of S10)
        have fe : upd H9 em (.lst []) em = some (.lst []) := upd_same
        generalize upd H9 em (.lst []) = H10 at S10 dz10 h10 e10 fe ⊢
        obtain ⟨ds, dz, d1, d2, d3⟩ := dz10
        have s10 := s9.trans S10
        have lay2 : (PyData.list ds).canLay0 = true := by simp [PyData.canLay0, d1]
        have dep2 : (PyData.list ds).depth ≤ 64 := by
          simp only [PyData.depth]
          omega
        refine ⟨_, _, .lst (sqL_of h10) dz, .lst (sqL_of fe) .nil, shaped_of lay2 dep2, rfl, _, rfl, ?_⟩
        cases zs with
        | nil =>
          cases ds with
          | cons d r => cases d3
          | nil =>
            rw [show PyData.eqv (.list []) (.list []) = true from SeqAt.eqv_refl _ rfl]
            refine iteT ?_
            refine ⟨_, rfl, .inl ⟨rfl, _, sqL_of h10⟩, ll 2 (by decide), fun c nc => ?_⟩
            have S12 := same_new (o := .tup [.non, .int 1]) nc
            have f12 : upd H10 c (.tup [.non, .int 1]) c = some (.tup [.non, .int 1]) := upd_same
            generalize upd H10 c (.tup [.non, .int 1]) = H12 at S12 f12 ⊢
            have h12 := S12 _ _ h10
            have ee : EntAt K H12 (.ref c) := ⟨c, .non, .one, rfl, sqT_of f12, .one, rfl, by decide⟩
            refine ⟨D2, [], _, rfl, rfl, h12, by decide, ?_⟩
            exact ⟨same_upd2 nD20 (s10.trans S12), D2, [.ref c], _, _, _, _, _, _, _, _, _, _, nD20, upd_same, Nat.le_refl 1, by show 1 ≤ 2 + 2 * (i + 1); omega, ap h12 (fun x hx => nomatch hx) ee, rfl⟩
        | cons z r =>
          cases ds with
          | nil => cases d3
          | cons d rd =>
            rw [show PyData.eqv (.list (d :: rd)) (.list []) = false by simp [PyData.eqv, PyData.eqvAll]]
            refine iteF ?_
            have lu : us.length ≤ 2 := by omega
            exact ⟨s10, D2, z :: r, _, _, _, _, _, _, _, _, _, _, nD20, h10, by show 1 ≤ r.length + 1; omega, by omega, e10, rfl⟩
      · rintro σ H5 ⟨sm5, D, ys, x1, x3, x4, x5, x6, x7, x8, x9, x10, x11, nD0, h5, l1, l2, ents5, rfl⟩
        exact ⟨_, rfl, D, ys, rfl, h5, l1, by omega, ents5, fun H6 s6 => q H6⟩
end

end EM
open PySem PySem.W PyProof.Rows
set_option maxRecDepth 100000 in
set_option maxHeartbeats 0 in
theorem PySem.Challenge.cw_everymatch_k65_whole_rows_of_shape_deeds_holds : PySem.Challenge.rw_everymatch_k65_whole_rows_of_shape_deeds.Holds := by
  w_on; o_law; k_head; (case hw => w_witness2)
  k_fill
  refine L2.walk_ofB (l := PySem.Challenge.rw_everymatch_k65_whole_rows_of_shape_deeds) (n := 63) (k := 82) (x := "script") (CX := fun w => L2.CX PySem.Challenge.rw_everymatch_k65_whole_rows_of_shape_deeds.prog w) (sp := fun w => EM.spLaw _) rfl (by decide) rfl ⟨rfl, by decide, by decide⟩ (fun w h Y => PySem.W.kIn_of Y) ?F (fun _ _ a ns hl hb _ hS => ⟨a, ns, rfl, hS, hl, fun z hz => EM.bits_log2 (hb z hz), fun _ => rfl⟩) (fun _ _ _ _ _ h => EM.cx_none h)
  case F =>
    intro w mg fa h KX G hmg
    refine' EM.law_mk KX G hmg ?al ?ll ?cl ?kl (fun s v => .of_eq rfl) (fun base fd F => EM.ok_law F (EM.Top.mk (EM.defAt_mk KX G ?a1 ?l2 ?c3 ?k4 (fun _ _ _ _ _ _ us hl => match us, hl with | [_], _ => rfl))
        (EM.defAtD_mk 1 (by intro z; cases z) rfl KX G ?a5 ?l6 ?c7 ?k8 ?t9 (.cons rfl .nil) (fun j hj T kV doc pm an cdv ct us its h1 h2 => by
      rcases hj with rfl | rfl
      · match us, its, h1, h2 with
        | [_], [_], _, _ => exact ⟨_, rfl, rfl⟩
      · match us, its, h1, h2 with
        | [_, _], [_], _, _ => exact ⟨_, rfl, rfl⟩))
        (EM.defAt_mk KX G ?a10 ?l11 ?c12 ?k13 (fun _ _ _ _ _ _ us hl => match us, hl with | [_], _ => rfl))
        (EM.defAt_mk KX G ?a14 ?l15 ?c16 ?k17 (fun _ _ _ _ _ _ us hl => match us, hl with | [_, _], _ => rfl))
        (EM.defAt_mk KX G ?a18 ?l19 ?c20 ?k21 (fun _ _ _ _ _ _ us hl => match us, hl with | [_], _ => rfl))
        (EM.defAt_mk KX G ?a22 ?l23 ?c24 ?k25 (fun _ _ _ _ _ _ us hl => match us, hl with | [_], _ => rfl))
        (EM.defAt_mk KX G ?a26 ?l27 ?c28 ?k29 (fun _ _ _ _ _ _ us hl => match us, hl with | [_], _ => rfl))
        (EM.defAt_mk KX G ?a30 ?l31 ?c32 ?k33 (fun _ _ _ _ _ _ us hl => match us, hl with | [_], _ => rfl))
        (EM.defAt_mk KX G ?a34 ?l35 ?c36 ?k37 (fun _ _ _ _ _ _ us hl => match us, hl with | [_, _, _], _ => rfl))
        (EM.defAt_mk KX G ?a38 ?l39 ?c40 ?k41 (fun _ _ _ _ _ _ us hl => match us, hl with | [_, _, _], _ => rfl))
        (EM.defAt_mk KX G ?a42 ?l43 ?c44 ?k45 (fun _ _ _ _ _ _ us hl => match us, hl with | [_, _, _], _ => rfl))
        (EM.defAt_mk KX G ?a46 ?l47 ?c48 ?k49 (fun _ _ _ _ _ _ us hl => match us, hl with | [_, _, _, _], _ => rfl))
        (EM.defAt_mk KX G ?a50 ?l51 ?c52 ?k53 (fun _ _ _ _ _ _ us hl => match us, hl with | [_, _, _], _ => rfl))
        (EM.defAt_mk KX G ?a54 ?l55 ?c56 ?k57 (fun _ _ _ _ _ _ us hl => match us, hl with | [_], _ => rfl))
        (EM.defAt_mk KX G ?a58 ?l59 ?c60 ?k61 (fun _ _ _ _ _ _ us hl => match us, hl with | [_], _ => rfl))
        (EM.defAt_mk KX G ?a62 ?l63 ?c64 ?k65 (fun _ _ _ _ _ _ us hl => match us, hl with | [_], _ => rfl))
        (EM.defAt_mk KX G ?a66 ?l67 ?c68 ?k69 (fun _ _ _ _ _ _ us hl => match us, hl with | [_], _ => rfl))
        (EM.defAt_mk KX G ?a70 ?l71 ?c72 ?k73 (fun _ _ _ _ _ _ us hl => match us, hl with | [_], _ => rfl))
        (EM.defAt_mk KX G ?a74 ?l75 ?c76 ?k77 (fun _ _ _ _ _ _ us hl => match us, hl with | [_], _ => rfl))
        (EM.defAt_mk KX G ?a78 ?l79 ?c80 ?k81 (fun _ _ _ _ _ _ us hl => match us, hl with | [_], _ => rfl))
        (EM.defAt_mk KX G ?a82 ?l83 ?c84 ?k85 (fun _ _ _ _ _ _ us hl => match us, hl with | [_, _], _ => rfl))
        (EM.defAt_mk KX G ?a86 ?l87 ?c88 ?k89 (fun _ _ _ _ _ _ us hl => match us, hl with | [_, _], _ => rfl))
        (EM.defAt_mk KX G ?a90 ?l91 ?c92 ?k93 (fun _ _ _ _ _ _ us hl => match us, hl with | [_, _], _ => rfl))
        (EM.defAt_mk KX G ?a94 ?l95 ?c96 ?k97 (fun _ _ _ _ _ _ us hl => match us, hl with | [_, _], _ => rfl))
        (EM.defAt_mk KX G ?a98 ?l99 ?c100 ?k101 (fun _ _ _ _ _ _ us hl => match us, hl with | [_, _], _ => rfl))
        (EM.defAt_mk KX G ?a102 ?l103 ?c104 ?k105 (fun _ _ _ _ _ _ us hl => match us, hl with | [_, _], _ => rfl))
        (EM.defAt_mk KX G ?a106 ?l107 ?c108 ?k109 (fun _ _ _ _ _ _ us hl => match us, hl with | [_, _], _ => rfl))
        (EM.defAt_mk KX G ?a110 ?l111 ?c112 ?k113 (fun _ _ _ _ _ _ us hl => match us, hl with | [_], _ => rfl))
        (EM.defAt_mk KX G ?a114 ?l115 ?c116 ?k117 (fun _ _ _ _ _ _ us hl => match us, hl with | [_], _ => rfl))
        (EM.defAt_mk KX G ?a118 ?l119 ?c120 ?k121 (fun _ _ _ _ _ _ us hl => match us, hl with | [_, _, _], _ => rfl))
        (EM.defAt_mk KX G ?a122 ?l123 ?c124 ?k125 (fun _ _ _ _ _ _ us hl => match us, hl with | [_, _], _ => rfl))
        (EM.defAt_mk KX G ?a126 ?l127 ?c128 ?k129 (fun _ _ _ _ _ _ us hl => match us, hl with | [_], _ => rfl))
        (EM.defAt_mk KX G ?a130 ?l131 ?c132 ?k133 (fun _ _ _ _ _ _ us hl => match us, hl with | [_, _], _ => rfl))
        (EM.defAt_mk KX G ?a134 ?l135 ?c136 ?k137 (fun _ _ _ _ _ _ us hl => match us, hl with | [_, _], _ => rfl))
        (EM.defAt_mk KX G ?a138 ?l139 ?c140 ?k141 (fun _ _ _ _ _ _ us hl => match us, hl with | [_], _ => rfl))
        (PySem.W.mg_none_of KX G ?z142)
        (PySem.W.mg_none_of KX G ?z143)
        (PySem.W.mg_none_of KX G ?z144)
        (PySem.W.mg_none_of KX G ?z145)
        (PySem.W.mg_none_of KX G ?z146)
        (PySem.W.mg_none_of KX G ?z147)
        (PySem.W.mg_none_of KX G ?z148)
        (PySem.W.mg_none_of KX G ?z149)
        (PySem.W.mg_none_of KX G ?z150)
        (PySem.W.mg_none_of KX G ?z151)
        (PySem.W.mg_none_of KX G ?z152)
        (PySem.W.mg_none_of KX G ?z153)
        (PySem.W.mg_none_of KX G ?z154)
        (EM.con_mk KX G ?v155 ?r156)
        (EM.con_mk KX G ?v157 ?r158)
        (EM.excAt_mk KX G ?e159 ?x160 ?k161 ?b162 ?y163 ?i164 ?s165)
        (EM.excAt_mk KX G ?e166 ?x167 ?k168 ?b169 ?y170 ?i171 ?s172)
        (EM.excAt_mk KX G ?e173 ?x174 ?k175 ?b176 ?y177 ?i178 ?s179)
        (EM.excAt_mk KX G ?e180 ?x181 ?k182 ?b183 ?y184 ?i185 ?s186)
        (EM.clsAt_mk KX G ?a187 ?pg188 ?hd189 ?po190 ?sa191 ?mk192 ?kc193 (EM.no_cons ?na194 (EM.no_cons ?na195 (EM.no_cons ?na196 (EM.no_cons ?na197 EM.no_nil)))))
        (EM.clsAt_mk KX G ?a198 ?pg199 ?hd200 ?po201 ?sa202 ?mk203 ?kc204 EM.no_nil)
        (EM.bareAt_mk ?oi205)
        (EM.methAt_mk (st := EM.s_Stem_init) ?a206 ?i207 ?l208 ?c209 ?k210 (fun _ _ _ _ _ _ us hl => match us, hl with | [_, _, _], _ => rfl))
        (EM.methAt_mk (st := EM.s_Builder_pair) ?a211 ?i212 ?l213 ?c214 ?k215 (fun _ _ _ _ _ _ us hl => match us, hl with | [_, _, _], _ => rfl))
        (EM.methAt_mk (st := EM.s_Builder_sides) ?a216 ?i217 ?l218 ?c219 ?k220 (fun _ _ _ _ _ _ us hl => match us, hl with | [_, _], _ => rfl))))
    (case a1 => k_is); (case l2 => k_is); (case c3 => k_is); (case k4 => k_is); (case a5 => k_is); (case l6 => k_is)
    (case c7 => k_is); (case k8 => k_is); (case t9 => k_is); (case a10 => k_is); (case l11 => k_is); (case c12 => k_is)
    (case k13 => k_is); (case a14 => k_is); (case l15 => k_is); (case c16 => k_is); (case k17 => k_is); (case a18 => k_is)
    (case l19 => k_is); (case c20 => k_is); (case k21 => k_is); (case a22 => k_is); (case l23 => k_is); (case c24 => k_is)
    (case k25 => k_is); (case a26 => k_is); (case l27 => k_is); (case c28 => k_is); (case k29 => k_is); (case a30 => k_is)
    (case l31 => k_is); (case c32 => k_is); (case k33 => k_is); (case a34 => k_is); (case l35 => k_is); (case c36 => k_is)
    (case k37 => k_is); (case a38 => k_is); (case l39 => k_is); (case c40 => k_is); (case k41 => k_is); (case a42 => k_is)
    (case l43 => k_is); (case c44 => k_is); (case k45 => k_is); (case a46 => k_is); (case l47 => k_is); (case c48 => k_is)
    (case k49 => k_is); (case a50 => k_is); (case l51 => k_is); (case c52 => k_is); (case k53 => k_is); (case a54 => k_is)
    (case l55 => k_is); (case c56 => k_is); (case k57 => k_is); (case a58 => k_is); (case l59 => k_is); (case c60 => k_is)
    (case k61 => k_is); (case a62 => k_is); (case l63 => k_is); (case c64 => k_is); (case k65 => k_is); (case a66 => k_is)
    (case l67 => k_is); (case c68 => k_is); (case k69 => k_is); (case a70 => k_is); (case l71 => k_is); (case c72 => k_is)
    (case k73 => k_is); (case a74 => k_is); (case l75 => k_is); (case c76 => k_is); (case k77 => k_is); (case a78 => k_is)
    (case l79 => k_is); (case c80 => k_is); (case k81 => k_is); (case a82 => k_is); (case l83 => k_is); (case c84 => k_is)
    (case k85 => k_is); (case a86 => k_is); (case l87 => k_is); (case c88 => k_is); (case k89 => k_is); (case a90 => k_is)
    (case l91 => k_is); (case c92 => k_is); (case k93 => k_is); (case a94 => k_is); (case l95 => k_is); (case c96 => k_is)
    (case k97 => k_is); (case a98 => k_is); (case l99 => k_is); (case c100 => k_is); (case k101 => k_is); (case a102 => k_is)
    (case l103 => k_is); (case c104 => k_is); (case k105 => k_is); (case a106 => k_is); (case l107 => k_is); (case c108 => k_is)
    (case k109 => k_is); (case a110 => k_is); (case l111 => k_is); (case c112 => k_is); (case k113 => k_is); (case a114 => k_is)
    (case l115 => k_is); (case c116 => k_is); (case k117 => k_is); (case a118 => k_is); (case l119 => k_is); (case c120 => k_is)
    (case k121 => k_is); (case a122 => k_is); (case l123 => k_is); (case c124 => k_is); (case k125 => k_is); (case a126 => k_is)
    (case l127 => k_is); (case c128 => k_is); (case k129 => k_is); (case a130 => k_is); (case l131 => k_is); (case c132 => k_is)
    (case k133 => k_is); (case a134 => k_is); (case l135 => k_is); (case c136 => k_is); (case k137 => k_is); (case a138 => k_is)
    (case l139 => k_is); (case c140 => k_is); (case k141 => k_is); (case z142 => k_is); (case z143 => k_is); (case z144 => k_is)
    (case z145 => k_is); (case z146 => k_is); (case z147 => k_is); (case z148 => k_is); (case z149 => k_is); (case z150 => k_is)
    (case z151 => k_is); (case z152 => k_is); (case z153 => k_is); (case z154 => k_is); (case v155 => k_is); (case r156 => exact ⟨_, rfl⟩)
    (case v157 => k_is); (case r158 => exact ⟨_, rfl⟩); (case e159 => k_is); (case x160 => k_exc); (case k161 => k_is); (case b162 => k_is)
    (case y163 => k_is); (case i164 => k_is); (case s165 => first | rfl | k_is); (case e166 => k_is); (case x167 => k_exc); (case k168 => k_is)
    (case b169 => k_is); (case y170 => k_is); (case i171 => k_is); (case s172 => first | rfl | k_is); (case e173 => k_is); (case x174 => k_exc)
    (case k175 => k_is); (case b176 => k_is); (case y177 => k_is); (case i178 => k_is); (case s179 => first | rfl | k_is); (case e180 => k_is)
    (case x181 => k_exc); (case k182 => k_is); (case b183 => k_is); (case y184 => k_is); (case i185 => k_is); (case s186 => first | rfl | k_is)
    (case a187 => k_is); (case pg188 => k_is); (case hd189 => k_is); (case po190 => k_is); (case sa191 => k_is); (case mk192 => k_is)
    (case kc193 => k_is); (case na194 => k_is); (case na195 => k_is); (case na196 => k_is); (case na197 => k_is); (case a198 => k_is)
    (case pg199 => k_is); (case hd200 => k_is); (case po201 => k_is); (case sa202 => k_is); (case mk203 => k_is); (case kc204 => k_is)
    (case oi205 => k_is); (case a206 => k_is); (case i207 => k_is); (case l208 => k_is); (case c209 => k_is); (case k210 => k_is)
    (case a211 => k_is); (case i212 => k_is); (case l213 => k_is); (case c214 => k_is); (case k215 => k_is); (case a216 => k_is)
    (case i217 => k_is); (case l218 => k_is); (case c219 => k_is); (case k220 => k_is)
    (case al => k_is); (case ll => k_is); (case cl => k_is); (case kl => k_is)
