import PyProof.Rows.All
import Wide.All
import OpenK.AllK
import Wide.FinOn
import HandS.ForMost
import HandS.IsInst
import HandS.Evl
import HandS.More
import HandS.Defaults
import HandS.HeadHook4
import HandS.Star
import HandS.SlotsOwn
import HandS.ClsMeth
import HandS.TupLe
import HandS.Property
import KE.KOpsOwn
import PyProof.InstNe
import PyProof.FactsAll.object
import PyProof.SeqIndex
import HandS.HeadNt
import HandS.Dict
import HandS.Deep
import KE.KCallOwn
import HandS.Nested
import HandS.ExcInit
import HandS.ExcField
import HandS.ExcIs
import HandS.ExcOwn
import KE.KExcSuper
import HandS.HotCalls
import HandS.ExcInitHot
import KE.KExcIs
import HandS.DictComp
import HandS.IterVal
import HandS.Conv
import KE.KOwnIter
import HandS.MakeKwOnly
import HandS.TryMany
import OpenK.KMore
import HandS.Iter
import KE.GoesEnum
import HandS.Comp
import KE.KStateDown
import HandS.HeadEnd
import HandS.Head0
import HandS.Head1
import HandS.Head2
import PySem.Challenge.RW_forkwaits_k63_programs_are_made
set_option Elab.async false
set_option linter.all false
set_option maxRecDepth 100000
set_option maxHeartbeats 4000000
namespace Fw
open PySem PySem.Spec PyProof.Rows L2

/-! ### the drawing state, the order of heaps -/
/-- a drawing state at st, its numbers at l -/
def Drw (H : Hp) (st l : Addr) : Prop := ∃ (ns : List Int) (p c n b : Int), H st = some (.lst [.ref l, .int p, .int c, .int n, .int b]) ∧ 0 ≤ p ∧ H l = some (.lst (ns.map V.int))
/-- where a drawing state stands, if there is one -/
abbrev Dst := Option (Addr × Addr)
def Sx (S : Dst) (b : Addr) : Prop := ∃ p, S = some p ∧ (b = p.1 ∨ b = p.2)
/-- what may happen: new objects; at the places of S the drawing goes on -/
def Lx (S : Dst) (H H' : Hp) : Prop := (∀ b o, ¬ Sx S b → H b = some o → H' b = some o) ∧ ∀ p, S = some p → Drw H' p.1 p.2
theorem sx_none {b : Addr} : ¬ Sx none b := fun ⟨_, h, _⟩ => nomatch h
section
variable {S : Dst} {H H1 H2 H' : Hp}
theorem Lx.refl (h : Lx S H H1) : Lx S H1 H1 := ⟨fun _ _ _ e => e, h.2⟩
theorem Lx.rfl0 : Lx none H H := ⟨fun _ _ _ e => e, fun _ h => nomatch h⟩
theorem Lx.trans (a : Lx S H H1) (b : Lx S H1 H2) : Lx S H H2 := ⟨fun c o n e => b.1 c o n (a.1 c o n e), b.2⟩
theorem Lx.ns (h : Lx S H H1) {p : Addr} (e : H1 p = none) : ¬ Sx S p := fun ⟨q, hq, hp⟩ => by
  obtain ⟨_, _, _, _, _, h1, _, h2⟩ := h.2 q hq
  rcases hp with rfl | rfl
  · rw [e] at h1; cases h1
  · rw [e] at h2; cases h2
theorem Drw.put {st l p : Addr} {o : HO} (h : Drw H st l) (h1 : st ≠ p) (h2 : l ≠ p) : Drw (upd H p o) st l := by
  obtain ⟨ns, x, c, n, d, q, h0, hl⟩ := h
  exact ⟨ns, x, c, n, d, by rw [upd_ne h1]; exact q, h0, by rw [upd_ne h2]; exact hl⟩
/-- an own object is laid or changed -/
theorem Lx.put (h : Lx S H H1) {p : Addr} (n : ¬ Sx S p) (f : ∀ u, H p = some u → False) {o : HO} : Lx S H (upd H1 p o) := by
  refine ⟨fun b u nb q => ?_, fun q hq => ?_⟩
  · have z : b ≠ p := fun z => by subst z; exact f u q
    rw [upd_ne z]; exact h.1 b u nb q
  · exact (h.2 q hq).put (fun z => n ⟨q, hq, .inl z.symm⟩) (fun z => n ⟨q, hq, .inr z.symm⟩)
theorem Lx.new (h : Lx S H H1) {p : Addr} (e : H1 p = none) {o : HO} : Lx S H1 (upd H1 p o) := h.refl.put (h.ns e) fun u q => by rw [e] at q; cases q
theorem Lx.fresh (h : Lx S H H1) {p : Addr} (e : H1 p = none) : H p = none := by
  cases q : H p with
  | none => rfl
  | some o =>
    have z := h.1 p o (h.ns e) q
    rw [e] at z; cases z
theorem Lx.of0 (w : Lx S H H1) (h : Lx none H1 H2) : Lx S H1 H2 := by
  refine ⟨fun b o _ e => h.1 b o sx_none e, fun q hq => ?_⟩
  obtain ⟨ns, x, c, n, d, q, h0, hl⟩ := w.2 q hq
  exact ⟨ns, x, c, n, d, h.1 _ _ sx_none q, h0, h.1 _ _ sx_none hl⟩
theorem Lx.same (h : Lx none H H1) : Same H H1 := fun b o e => h.1 b o sx_none e
theorem lx_same (h : Same H H1) : Lx none H H1 := ⟨fun b o _ e => h b o e, fun _ z => nomatch z⟩
/-- an own object is changed, the heap goes on -/
theorem Lx.upd (e : Lx S H H1) {l : Addr} {o : HO} (n : ¬ Sx S l) : Lx S (upd H l o) (upd H1 l o) := by
  refine ⟨fun b u nb q => ?_, fun q hq => ?_⟩
  · by_cases hb : b = l
    · subst hb
      rw [upd_same] at q ⊢
      exact q
    · rw [upd_ne hb] at q ⊢
      exact e.1 b u nb q
  · exact (e.2 q hq).put (fun z => n ⟨q, hq, .inl z.symm⟩) (fun z => n ⟨q, hq, .inr z.symm⟩)
end
/-- a list, a tuple to be read at a; it stays -/
structure LA (K : PySem.W.Frag) (S : Dst) (H : Hp) (a : Addr) (xs : List V) : Prop where
  q : SqL K H a xs
  n : ¬ Sx S a
structure UA (K : PySem.W.Frag) (S : Dst) (H : Hp) (a : Addr) (xs : List V) : Prop where
  q : SqT K H a xs
  n : ¬ Sx S a
section
variable {K : PySem.W.Frag} {S : Dst} {H H1 H2 H' : Hp} {a : Addr} {xs : List V}
theorem Rd.mono {u : HO} (e : Lx S H H1) (n : ¬ Sx S a) (h : Rd H a u) : Rd H1 a u := by
  rcases h with h | ⟨o, h⟩
  · exact Or.inl (e.1 a _ n h)
  · exact Or.inr ⟨o, e.1 a _ n h⟩
theorem LA.mono (h : LA K S H a xs) (e : Lx S H H1) : LA K S H1 a xs := ⟨h.q.imp (Rd.mono e h.n) id, h.n⟩
theorem UA.mono (h : UA K S H a xs) (e : Lx S H H1) : UA K S H1 a xs := ⟨h.q.imp (Rd.mono e h.n) id, h.n⟩
theorem LA.of (h : H a = some (.lst xs)) (n : ¬ Sx S a) : LA K S H a xs := ⟨SqL.of h, n⟩
theorem UA.of (h : H a = some (.tup xs)) (n : ¬ Sx S a) : UA K S H a xs := ⟨SqT.of h, n⟩
theorem LA.of0 (h : SqL K H a xs) : LA K none H a xs := ⟨h, sx_none⟩
theorem UA.of0 (h : SqT K H a xs) : UA K none H a xs := ⟨h, sx_none⟩
end

/-! ### what evaluates to what -/
def Ev (K : PySem.W.Frag) (S : Dst) (te : TE) (σ : L2.St) (H : Hp) (v : V) : Prop := ∀ H1, Lx S H H1 → ∀ Q : VK, (∀ H2, Lx S H1 H2 → Q v H2) → te σ H1 Q
def EvX (K : PySem.W.Frag) (S : Dst) (te : TE) (σ : L2.St) (H : Hp) (P : V → Hp → Prop) : Prop := ∀ H1, Lx S H H1 → ∀ Q : VK, (∀ v H2, Lx S H1 H2 → P v H2 → Q v H2) → te σ H1 Q
def EvT (K : PySem.W.Frag) (S : Dst) (tt : TT) (σ : L2.St) (H : Hp) (b : Bool) : Prop := ∀ H1, Lx S H H1 → ∀ Q : Bool → Hp → Prop, (∀ H2, Lx S H1 H2 → Q b H2) → tt σ H1 Q
def EvA (K : PySem.W.Frag) (S : Dst) (ta : TA) (σ : L2.St) (H : Hp) (vs : List V) : Prop := ∀ H1, Lx S H H1 → ∀ Q : List V → Hp → Prop, (∀ H2, Lx S H1 H2 → Q vs H2) → ta σ H1 Q
def EvAX (K : PySem.W.Frag) (S : Dst) (ta : TA) (σ : L2.St) (H : Hp) (P : List V → Hp → Prop) : Prop := ∀ H1, Lx S H H1 → ∀ Q : List V → Hp → Prop, (∀ vs H2, Lx S H1 H2 → P vs H2 → Q vs H2) → ta σ H1 Q
def EvTX (K : PySem.W.Frag) (S : Dst) (tt : TT) (σ : L2.St) (H : Hp) (P : Bool → Hp → Prop) : Prop := ∀ H1, Lx S H H1 → ∀ Q : Bool → Hp → Prop, (∀ b H2, Lx S H1 H2 → P b H2 → Q b H2) → tt σ H1 Q
/-- a new list with items xs; a new tuple -/
abbrev NewL (S : Dst) (H : Hp) (xs : List V) : V → Hp → Prop := fun v H2 => ∃ p, v = .ref p ∧ H p = none ∧ ¬ Sx S p ∧ H2 p = some (.lst xs)
abbrev NewU (S : Dst) (H : Hp) (xs : List V) : V → Hp → Prop := fun v H2 => ∃ p, v = .ref p ∧ H p = none ∧ ¬ Sx S p ∧ H2 p = some (.tup xs)
/-- a two-place operation on values; a one-place one; a call on values -/
def RV (K : PySem.W.Frag) (S : Dst) (r : R2) (x y : V) (H : Hp) (z : V) : Prop := ∀ H1, Lx S H H1 → ∀ Q : VK, (∀ H2, Lx S H1 H2 → Q z H2) → r x y H1 Q
def RVX (K : PySem.W.Frag) (S : Dst) (r : R2) (x y : V) (H : Hp) (P : V → Hp → Prop) : Prop := ∀ H1, Lx S H H1 → ∀ Q : VK, (∀ z H2, Lx S H1 H2 → P z H2 → Q z H2) → r x y H1 Q
def RU (K : PySem.W.Frag) (S : Dst) (r : V → Hp → VK → Prop) (x : V) (H : Hp) (z : V) : Prop := ∀ H1, Lx S H H1 → ∀ Q : VK, (∀ H2, Lx S H1 H2 → Q z H2) → r x H1 Q
def RC (K : PySem.W.Frag) (S : Dst) (r : List V → Hp → VK → Prop) (vs : List V) (H : Hp) (z : V) : Prop := ∀ H1, Lx S H H1 → ∀ Q : VK, (∀ H2, Lx S H1 H2 → Q z H2) → r vs H1 Q
def RCX (K : PySem.W.Frag) (S : Dst) (r : List V → Hp → VK → Prop) (vs : List V) (H : Hp) (P : V → Hp → Prop) : Prop := ∀ H1, Lx S H H1 → ∀ Q : VK, (∀ z H2, Lx S H1 H2 → P z H2 → Q z H2) → r vs H1 Q
def SpX (K : PySem.W.Frag) (S : Dst) (sp : Sp) (vs : List V) (H : Hp) (E : XK) (P : V → Hp → Prop) : Prop := ∀ H1, Lx S H H1 → ∀ Q : VK, (∀ z H2, Lx S H1 H2 → P z H2 → Q z H2) → sp vs H1 Q E
/-- a block from heaps that go on from H -/
def St (K : PySem.W.Frag) (S : Dst) (ts : TS) (D : Ends) (σ : L2.St) (H : Hp) : Prop := ∀ H1, Lx S H H1 → ts D σ H1

section
variable {K : PySem.W.Frag} {S : Dst} {σ : L2.St} {H H' : Hp} {ta tb tc te tx : TE} {tas : TA} {t u : TT} {x y z v : V} {r : R2} {P P' : V → Hp → Prop} {b c : Bool} {vs : List V}
theorem Ev.toX (h : Ev K S te σ H v) : EvX K S te σ H (fun w _ => w = v) := fun H1 e Q q => h H1 e Q fun H2 e2 => q v H2 e2 rfl
theorem EvX.imp (h : EvX K S te σ H P) (i : ∀ w H2, Lx S H H2 → P w H2 → P' w H2) : EvX K S te σ H P' := fun H1 e Q q => h H1 e Q fun w H2 e2 p => q w H2 e2 (i w H2 (e.trans e2) p)
theorem EvX.ev (h : EvX K S te σ H P) (i : ∀ w H2, Lx S H H2 → P w H2 → w = v) : Ev K S te σ H v := fun H1 e Q q => h H1 e Q fun w H2 e2 p => by
  have z := i w H2 (e.trans e2) p
  subst z
  exact q H2 e2
theorem EvA.toX (h : EvA K S tas σ H vs) : EvAX K S tas σ H (fun w _ => w = vs) := fun H1 e Q q => h H1 e Q fun H2 e2 => q vs H2 e2 rfl
theorem EvT.toX (h : EvT K S t σ H b) : EvTX K S t σ H (fun w _ => w = b) := fun H1 e Q q => h H1 e Q fun H2 e2 => q b H2 e2 rfl
theorem Ev.mono (e : Lx S H H') (h : Ev K S te σ H v) : Ev K S te σ H' v := fun H1 a Q q => h H1 (e.trans a) Q q
theorem St.mono {ts : TS} {D : Ends} (e : Lx S H H') (h : St K S ts D σ H) : St K S ts D σ H' := fun H1 a => h H1 (e.trans a)

theorem ev_var {i : Nat} (h : σ[i]? = some (some v)) : Ev K S (tVar i) σ H v := fun H1 e _ q => ⟨v, h, q H1 e.refl⟩
theorem ev_c : Ev K S (tC v) σ H v := fun H1 e _ q => q H1 e.refl
theorem ev_op (ha : Ev K S ta σ H x) (hb : Ev K S tb σ H y) (hr : RV K S r x y H z) : Ev K S (tOp r ta tb) σ H z := fun H1 e Q q =>
  ha H1 e _ fun H2 e2 => hb H2 (e.trans e2) _ fun H3 e3 => hr H3 ((e.trans e2).trans e3) Q fun H4 e4 => q H4 ((e2.trans e3).trans e4)
theorem ex_op (ha : Ev K S ta σ H x) (hb : Ev K S tb σ H y) (hr : RVX K S r x y H P) : EvX K S (tOp r ta tb) σ H P := fun H1 e Q q =>
  ha H1 e _ fun H2 e2 => hb H2 (e.trans e2) _ fun H3 e3 => hr H3 ((e.trans e2).trans e3) Q fun z H4 e4 p => q z H4 ((e2.trans e3).trans e4) p
theorem ex_op1 (ha : EvX K S ta σ H P') (k : ∀ x H1, Lx S H H1 → P' x H1 → EvX K S (tOp r (tC x) tb) σ H1 P) : EvX K S (tOp r ta tb) σ H P := fun H1 e Q q =>
  ha H1 e _ fun x H2 e2 p => k x H2 (e.trans e2) p H2 (e.trans e2).refl Q fun z H3 e3 p => q z H3 (e2.trans e3) p
theorem ex_op2 (ha : Ev K S ta σ H x) (hb : EvX K S tb σ H P') (k : ∀ y H1, Lx S H H1 → P' y H1 → EvX K S (tOp r (tC x) (tC y)) σ H1 P) : EvX K S (tOp r ta tb) σ H P := fun H1 e Q q =>
  ha H1 e _ fun H2 e2 => hb H2 (e.trans e2) _ fun y H3 e3 p => k y H3 ((e.trans e2).trans e3) p H3 ((e.trans e2).trans e3).refl Q fun z H4 e4 p => q z H4 ((e2.trans e3).trans e4) p
theorem ev_un {r : V → Hp → VK → Prop} (ha : Ev K S ta σ H x) (hr : RU K S r x H z) : Ev K S (tUn r ta) σ H z := fun H1 e Q q =>
  ha H1 e _ fun H2 e2 => hr H2 (e.trans e2) Q fun H3 e3 => q H3 (e2.trans e3)

/-! operations by values -/
theorem rv_I0 {g : Int → Int → V} {i j : Int} : RV K S (rI0 g) (.int i) (.int j) H (g i j) := fun H1 e _ q => ⟨i, j, rfl, rfl, q H1 e.refl⟩
theorem rv_I {C : Int → Int → Prop} {g : Int → Int → V} {i j : Int} (hc : C i j) : RV K S (rI C g) (.int i) (.int j) H (g i j) := fun H1 e _ q => ⟨i, j, rfl, rfl, hc, q H1 e.refl⟩
theorem ru_U {g : Int → V} {i : Int} : RU K S (rU g) (.int i) H (g i) := fun H1 e _ q => ⟨i, rfl, q H1 e.refl⟩
theorem rv_eq (h : scal x y = true) : RV K S rEq x y H (.bl (decide (x = y))) := fun H1 e _ q => ⟨h, q H1 e.refl⟩
theorem rv_ne (h : scal x y = true) : RV K S rNe x y H (.bl (!decide (x = y))) := fun H1 e _ q => ⟨h, q H1 e.refl⟩
theorem rv_isN : RV K S (fun x y H Q => y = .non ∧ Q (.bl (decide (x = .non))) H) x .non H (.bl (decide (x = .non))) := fun H1 e _ q => ⟨rfl, q H1 e.refl⟩
theorem rv_notN : RV K S (fun x y H Q => y = .non ∧ Q (.bl (!decide (x = .non))) H) x .non H (.bl (!decide (x = .non))) := fun H1 e _ q => ⟨rfl, q H1 e.refl⟩
theorem rv_ixL {p : Addr} {xs : List V} {i : Int} (h : LA K S H p xs) (ha : atI xs i = some v) : RV K S (rIxL K) (.ref p) (.int i) H v := fun H1 e _ q => ⟨p, xs, i, v, rfl, rfl, (h.mono e).q, ha, q H1 e.refl⟩
theorem rv_ixT {p : Addr} {xs : List V} {i : Int} (h : UA K S H p xs) (ha : atI xs i = some v) : RV K S (rIxT K) (.ref p) (.int i) H v := fun H1 e _ q => ⟨p, xs, i, v, rfl, rfl, (h.mono e).q, ha, q H1 e.refl⟩
theorem rv_inL {neg : Bool} {p : Addr} {xs : List V} (h : LA K S H p xs) (hx : flatV x = true) (ha : xs.all flatV = true) : RV K S (rIn K neg) x (.ref p) H (.bl (if neg then !inV x xs else inV x xs)) :=
  fun H1 e _ q => ⟨p, xs, rfl, Or.inl (h.mono e).q, hx, ha, q H1 e.refl⟩
theorem rv_inT {neg : Bool} {p : Addr} {xs : List V} (h : UA K S H p xs) (hx : flatV x = true) (ha : xs.all flatV = true) : RV K S (rIn K neg) x (.ref p) H (.bl (if neg then !inV x xs else inV x xs)) :=
  fun H1 e _ q => ⟨p, xs, rfl, Or.inr (h.mono e).q, hx, ha, q H1 e.refl⟩

/-! tests -/
theorem et_test (h : Ev K S te σ H (.bl b)) : EvT K S (tTest te) σ H b := fun H1 e _ q => h H1 e _ fun H2 e2 => ⟨b, rfl, q H2 e2⟩
theorem et_B (h : Ev K S te σ H (.bl b)) : EvT K S (tB te) σ H b := fun H1 e _ q => h H1 e _ fun H2 e2 => ⟨b, rfl, q H2 e2⟩
theorem et_and (h1 : EvT K S t σ H b) (h2 : b = true → EvT K S u σ H c) : EvT K S (tAnd t u) σ H (b && c) := fun H1 e Q q => h1 H1 e _ fun H2 e2 => by
  cases b with
  | true =>
    show u σ H2 Q
    exact h2 rfl H2 (e.trans e2) Q fun H3 e3 => q H3 (e2.trans e3)
  | false =>
    show Q false H2
    exact q H2 e2
theorem et_or (h1 : EvT K S t σ H b) (h2 : b = false → EvT K S u σ H c) : EvT K S (tOr t u) σ H (b || c) := fun H1 e Q q => h1 H1 e _ fun H2 e2 => by
  cases b with
  | true =>
    show Q true H2
    exact q H2 e2
  | false =>
    show u σ H2 Q
    exact h2 rfl H2 (e.trans e2) Q fun H3 e3 => q H3 (e2.trans e3)
theorem et_not (h1 : EvT K S t σ H b) : EvT K S (tNot t) σ H (!b) := fun H1 e _ q => h1 H1 e _ fun H2 e2 => q H2 e2
theorem etx_test {PB : Bool → Hp → Prop} (h : EvX K S te σ H fun v H2 => ∃ b, v = .bl b ∧ PB b H2) : EvTX K S (tTest te) σ H PB := fun H1 e Q q => h H1 e _ fun v H2 e2 ⟨b, hv, p⟩ => ⟨b, hv, q b H2 e2 p⟩
theorem etx_B {PB : Bool → Hp → Prop} (h : EvX K S te σ H fun v H2 => ∃ b, v = .bl b ∧ PB b H2) : EvTX K S (tB te) σ H PB := fun H1 e Q q => h H1 e _ fun v H2 e2 ⟨b, hv, p⟩ => ⟨b, hv, q b H2 e2 p⟩
theorem etx_and {PB : Bool → Hp → Prop} (h1 : EvT K S t σ H b) (h2 : b = true → EvTX K S u σ H PB) (h3 : b = false → ∀ H2, Lx S H H2 → PB false H2) : EvTX K S (tAnd t u) σ H PB := fun H1 e Q q => h1 H1 e _ fun H2 e2 => by
  cases b with
  | true =>
    show u σ H2 Q
    exact h2 rfl H2 (e.trans e2) Q fun b H3 e3 p => q b H3 (e2.trans e3) p
  | false =>
    show Q false H2
    exact q false H2 e2 (h3 rfl H2 (e.trans e2))
theorem etx_or {PB : Bool → Hp → Prop} (h1 : EvT K S t σ H b) (h2 : b = false → EvTX K S u σ H PB) (h3 : b = true → ∀ H2, Lx S H H2 → PB true H2) : EvTX K S (tOr t u) σ H PB := fun H1 e Q q => h1 H1 e _ fun H2 e2 => by
  cases b with
  | false =>
    show u σ H2 Q
    exact h2 rfl H2 (e.trans e2) Q fun b H3 e3 p => q b H3 (e2.trans e3) p
  | true =>
    show Q true H2
    exact q true H2 e2 (h3 rfl H2 (e.trans e2))
theorem etx_not {PB : Bool → Hp → Prop} (h : EvTX K S t σ H fun b H2 => PB (!b) H2) : EvTX K S (tNot t) σ H PB := fun H1 e Q q => h H1 e _ fun b H2 e2 p => q (!b) H2 e2 p
theorem EvTX.imp {PB PB' : Bool → Hp → Prop} (h : EvTX K S t σ H PB) (i : ∀ b H2, Lx S H H2 → PB b H2 → PB' b H2) : EvTX K S t σ H PB' := fun H1 e Q q => h H1 e Q fun b H2 e2 p => q b H2 e2 (i b H2 (e.trans e2) p)
/-- one after the other, what is known so far carried on -/
theorem etx_and2 {PA PB : Bool → Hp → Prop} (h1 : EvTX K S t σ H PA) (h2 : ∀ H1, Lx S H H1 → PA true H1 → EvTX K S u σ H1 PB) (h3 : ∀ H2, Lx S H H2 → PA false H2 → PB false H2) : EvTX K S (tAnd t u) σ H PB := fun H1 e Q q => h1 H1 e _ fun b H2 e2 p => by
  cases b with
  | true =>
    show u σ H2 Q
    exact h2 H2 (e.trans e2) p H2 (e.trans e2).refl Q fun b H3 e3 p => q b H3 (e2.trans e3) p
  | false =>
    show Q false H2
    exact q false H2 e2 (h3 H2 (e.trans e2) p)
theorem etx_or2 {PA PB : Bool → Hp → Prop} (h1 : EvTX K S t σ H PA) (h2 : ∀ H1, Lx S H H1 → PA false H1 → EvTX K S u σ H1 PB) (h3 : ∀ H2, Lx S H H2 → PA true H2 → PB true H2) : EvTX K S (tOr t u) σ H PB := fun H1 e Q q => h1 H1 e _ fun b H2 e2 p => by
  cases b with
  | false =>
    show u σ H2 Q
    exact h2 H2 (e.trans e2) p H2 (e.trans e2).refl Q fun b H3 e3 p => q b H3 (e2.trans e3) p
  | true =>
    show Q true H2
    exact q true H2 e2 (h3 H2 (e.trans e2) p)
theorem et_is (h : EvT K S t σ H b) (e : b = c) : EvT K S t σ H c := e ▸ h
theorem ev_is {w : V} (h : Ev K S te σ H v) (e : v = w) : Ev K S te σ H w := e ▸ h
theorem ev_andV (h1 : Ev K S ta σ H (.bl b)) (h2 : b = true → Ev K S tb σ H (.bl c)) : Ev K S (tAndV ta tb) σ H (.bl (b && c)) := fun H1 e Q q => h1 H1 e _ fun H2 e2 => ⟨b, rfl, by
  cases b with
  | true =>
    show tb σ H2 Q
    exact h2 rfl H2 (e.trans e2) Q fun H3 e3 => q H3 (e2.trans e3)
  | false =>
    show Q (.bl false) H2
    exact q H2 e2⟩
theorem ev_orV (h1 : Ev K S ta σ H (.bl b)) (h2 : b = false → Ev K S tb σ H (.bl c)) : Ev K S (tOrV ta tb) σ H (.bl (b || c)) := fun H1 e Q q => h1 H1 e _ fun H2 e2 => ⟨b, rfl, by
  cases b with
  | true =>
    show Q (.bl true) H2
    exact q H2 e2
  | false =>
    show tb σ H2 Q
    exact h2 rfl H2 (e.trans e2) Q fun H3 e3 => q H3 (e2.trans e3)⟩
theorem ev_notV (h1 : Ev K S ta σ H (.bl b)) : Ev K S (tNotV ta) σ H (.bl (!b)) := fun H1 e _ q => h1 H1 e _ fun H2 e2 => ⟨b, rfl, q H2 e2⟩
theorem ex_if (h : EvT K S t σ H b) (h1 : b = true → EvX K S ta σ H P) (h2 : b = false → EvX K S tb σ H P) : EvX K S (tIf t ta tb) σ H P := fun H1 e Q q => h H1 e _ fun H2 e2 => by
  cases b with
  | true =>
    show ta σ H2 Q
    exact h1 rfl H2 (e.trans e2) Q fun z H3 e3 p => q z H3 (e2.trans e3) p
  | false =>
    show tb σ H2 Q
    exact h2 rfl H2 (e.trans e2) Q fun z H3 e3 p => q z H3 (e2.trans e3) p
theorem ev_if {w : V} (h : EvT K S t σ H b) (h1 : b = true → Ev K S ta σ H v) (h2 : b = false → Ev K S tb σ H w) : Ev K S (tIf t ta tb) σ H (if b = true then v else w) :=
  (ex_if (P := fun z _ => z = if b = true then v else w) h (fun e => (h1 e).toX.imp fun z _ _ q => by rw [q, if_pos e]) fun e => (h2 e).toX.imp fun z _ _ q => by rw [q, if_neg (by rw [e]; decide)]).ev fun _ _ _ q => q

/-! arguments, displays -/
theorem ea_nil : EvA K S tNil σ H [] := fun H1 e _ q => q H1 e.refl
theorem ea_cons (h : Ev K S ta σ H x) (hr : EvA K S tas σ H vs) : EvA K S (tCons ta tas) σ H (x :: vs) := fun H1 e _ q =>
  h H1 e _ fun H2 e2 => hr H2 (e.trans e2) _ fun H3 e3 => q H3 (e2.trans e3)
theorem eax_cons {PA : List V → Hp → Prop} (h : EvX K S ta σ H P) (k : ∀ v H1, Lx S H H1 → P v H1 → EvAX K S tas σ H1 fun vs H2 => PA (v :: vs) H2) : EvAX K S (tCons ta tas) σ H PA := fun H1 e Q q =>
  h H1 e _ fun v H2 e2 p => k v H2 (e.trans e2) p H2 (e.trans e2).refl _ fun vs H3 e3 p3 => q (v :: vs) H3 (e2.trans e3) p3
theorem EvAX.imp {PA PA' : List V → Hp → Prop} (h : EvAX K S tas σ H PA) (i : ∀ w H2, Lx S H H2 → PA w H2 → PA' w H2) : EvAX K S tas σ H PA' := fun H1 e Q q => h H1 e Q fun w H2 e2 p => q w H2 e2 (i w H2 (e.trans e2) p)
theorem ex_lst (h : EvA K S tas σ H vs) (hl : vs.length ≤ sizeLine) : EvX K S (tLst tas) σ H (NewL S H vs) := fun H1 e _ q =>
  h H1 e _ fun H2 e2 => ⟨hl, fun p hp => q _ _ (e2.trans ((e.trans e2).new hp)) ⟨p, rfl, (e.trans e2).fresh hp, (e.trans e2).ns hp, upd_same⟩⟩
theorem ex_tup (h : EvA K S tas σ H vs) (hl : vs.length ≤ sizeLine) : EvX K S (tTup tas) σ H (NewU S H vs) := fun H1 e _ q =>
  h H1 e _ fun H2 e2 => ⟨hl, fun p hp => q _ _ (e2.trans ((e.trans e2).new hp)) ⟨p, rfl, (e.trans e2).fresh hp, (e.trans e2).ns hp, upd_same⟩⟩
theorem ex_lstX {PA : List V → Hp → Prop} (h : EvAX K S tas σ H PA) (hl : ∀ vs H2, PA vs H2 → vs.length ≤ sizeLine) : EvX K S (tLst tas) σ H (fun v H2 => ∃ vs H3, PA vs H3 ∧ Lx S H H3 ∧ Lx S H3 H2 ∧ NewL S H vs v H2) := fun H1 e _ q =>
  h H1 e _ fun vs H2 e2 p2 => ⟨hl vs H2 p2, fun p hp => q _ _ (e2.trans ((e.trans e2).new hp)) ⟨vs, H2, p2, e.trans e2, (e.trans e2).new hp, p, rfl, (e.trans e2).fresh hp, (e.trans e2).ns hp, upd_same⟩⟩
theorem ex_tupX {PA : List V → Hp → Prop} (h : EvAX K S tas σ H PA) (hl : ∀ vs H2, PA vs H2 → vs.length ≤ sizeLine) : EvX K S (tTup tas) σ H (fun v H2 => ∃ vs H3, PA vs H3 ∧ Lx S H H3 ∧ Lx S H3 H2 ∧ NewU S H vs v H2) := fun H1 e _ q =>
  h H1 e _ fun vs H2 e2 p2 => ⟨hl vs H2 p2, fun p hp => q _ _ (e2.trans ((e.trans e2).new hp)) ⟨vs, H2, p2, e.trans e2, (e.trans e2).new hp, p, rfl, (e.trans e2).fresh hp, (e.trans e2).ns hp, upd_same⟩⟩

/-! calls -/
theorem ex_call {sp : Sp} {dvs : List V} {E : XK} (h : EvA K S tas σ H vs) (k : SpX K S sp (vs ++ dvs) H E P) : EvX K S (tCall sp dvs E tas) σ H P := fun H1 e Q q =>
  h H1 e _ fun H2 e2 => k H2 (e.trans e2) Q fun z H3 e3 p => q z H3 (e2.trans e3) p
theorem ex_callX {sp : Sp} {dvs : List V} {E : XK} {PA : List V → Hp → Prop} (h : EvAX K S tas σ H PA) (k : ∀ vs H1, Lx S H H1 → PA vs H1 → SpX K S sp (vs ++ dvs) H1 E P) : EvX K S (tCall sp dvs E tas) σ H P := fun H1 e Q q =>
  h H1 e _ fun vs H2 e2 p2 => k vs H2 (e.trans e2) p2 H2 (e.trans e2).refl Q fun z H3 e3 p => q z H3 (e2.trans e3) p
theorem ev_cb {r : List V → Hp → VK → Prop} (h : EvA K S tas σ H vs) (k : RC K S r vs H z) : Ev K S (tCB r tas) σ H z := fun H1 e Q q =>
  h H1 e _ fun H2 e2 => k H2 (e.trans e2) Q fun H3 e3 => q H3 (e2.trans e3)
theorem ex_cb {r : List V → Hp → VK → Prop} (h : EvA K S tas σ H vs) (k : RCX K S r vs H P) : EvX K S (tCB r tas) σ H P := fun H1 e Q q =>
  h H1 e _ fun H2 e2 => k H2 (e.trans e2) Q fun z H3 e3 p => q z H3 (e2.trans e3) p
theorem ex_cbX {r : List V → Hp → VK → Prop} {PA : List V → Hp → Prop} (h : EvAX K S tas σ H PA) (k : ∀ vs H1, Lx S H H1 → PA vs H1 → RCX K S r vs H1 P) : EvX K S (tCB r tas) σ H P := fun H1 e Q q =>
  h H1 e _ fun vs H2 e2 p2 => k vs H2 (e.trans e2) p2 H2 (e.trans e2).refl Q fun z H3 e3 p => q z H3 (e2.trans e3) p
def rLn (K : PySem.W.Frag) : List V → Hp → VK → Prop := fun xs H Q => ∃ p ys, xs = [.ref p] ∧ (SqL K H p ys ∨ SqT K H p ys) ∧ Q (.int ys.length) H
def rLst (K : PySem.W.Frag) : List V → Hp → VK → Prop := fun xs H Q => ∃ p ys, xs = [.ref p] ∧ (SqL K H p ys ∨ SqT K H p ys) ∧ ∀ l, H l = none → Q (.ref l) (upd H l (.lst ys))
theorem rc_len {p : Addr} {ys : List V} (h : LA K S H p ys) : RC K S (rLn K) [.ref p] H (.int (ys.length : Int)) := fun H1 e _ q => ⟨p, ys, rfl, .inl (h.mono e).q, q H1 e.refl⟩
theorem rc_lenT {p : Addr} {ys : List V} (h : UA K S H p ys) : RC K S (rLn K) [.ref p] H (.int (ys.length : Int)) := fun H1 e _ q => ⟨p, ys, rfl, .inr (h.mono e).q, q H1 e.refl⟩
theorem rc_list {p : Addr} {ys : List V} (h : LA K S H p ys) : RCX K S (rLst K) [.ref p] H (NewL S H ys) := fun H1 e _ q => ⟨p, ys, rfl, .inl (h.mono e).q, fun l hl => q _ _ (e.new hl) ⟨l, rfl, e.fresh hl, e.ns hl, upd_same⟩⟩
theorem rc_listT {p : Addr} {ys : List V} (h : UA K S H p ys) : RCX K S (rLst K) [.ref p] H (NewL S H ys) := fun H1 e _ q => ⟨p, ys, rfl, .inr (h.mono e).q, fun l hl => q _ _ (e.new hl) ⟨l, rfl, e.fresh hl, e.ns hl, upd_same⟩⟩
def rInt1 : List V → Hp → VK → Prop := fun xs H Q => (∃ i, xs = [.int i] ∧ Q (.int i) H) ∨ ∃ k, xs = [.bl k] ∧ Q (.int (if k then 1 else 0)) H
theorem rc_int {i : Int} : RC K S rInt1 [.int i] H (.int i) := fun H1 e _ q => .inl ⟨i, rfl, q H1 e.refl⟩
end
/-! the rules over a written part told by name (a comprehension's block has the def's) -/
def rTup1 (K : PySem.W.Frag) : List V → Hp → VK → Prop := fun xs H Q => ∃ p ys, xs = [.ref p] ∧ ((SqL K H p ys ∧ ∀ l, H l = none → Q (.ref l) (upd H l (.tup ys))) ∨ (SqT K H p ys ∧ Q (.ref p) H))
section
variable {X : Cx} (K : PySem.W.Frag) (h : X.K = K)
include h
theorem lenK : CallR X (.builtin "len") (rLn K) := by subst h; exact call_len_seq
theorem listK : CallR X (.type "list") (rLst K) := by subst h; exact call_list_of
theorem tupleK : CallR X (.type "tuple") (rTup1 K) := by subst h; exact call_tuple_of
theorem isiK : CallR X (.builtin "isinstance") (rIsi K) := by subst h; exact call_isi
theorem isiTK : CallR X (.builtin "isinstance") (rIsiT K) := by subst h; exact call_isiT
theorem minK (c : X.calm = true) : CallR X (.builtin "min") (rMin K) := by subst h; exact cr_min c
theorem maxK (c : X.calm = true) : CallR X (.builtin "max") (rMax K) := by subst h; exact cr_max c
theorem allK (c : X.calm = true) : CallR X (.builtin "all") (rAll K) := by subst h; exact cr_all c
theorem anyK (c : X.calm = true) : CallR X (.builtin "any") (rAny K) := by subst h; exact cr_any c
theorem sumK (c : X.calm = true) : CallR X (.builtin "sum") (rSum K) := by subst h; exact cr_sum c
theorem ixL : IxR X (rIxL K) := by subst h; exact ix_list
theorem ixU : IxR X (rIxT K) := by subst h; exact ix_tup
theorem ixQ : IxR X (rIx K) := by subst h; exact ix_seq
theorem inK : OpR X (compareOp .In) (rIn K false) := by subst h; exact op_in_seq
theorem notInK : OpR X (compareOp .NotIn) (rIn K true) := by subst h; exact op_notIn_seq
theorem eqDK (hu : X.A.units + 64 < cLine) : OpR X (compareOp .Eq) (rEqD K) := by subst h; exact op_eqD hu
theorem neDK (hu : X.A.units + 64 < cLine) : OpR X (compareOp .NotEq) (rNeD K) := by subst h; exact op_neD hu
theorem slLK : SlR X (rSlL K) := by subst h; exact sl_list
theorem slUK : SlR X (rSlT K) := by subst h; exact sl_tup
theorem kdK {w : World} (h2 : X.w = w) : IxR X (rIxD K w) := by subst h; subst h2; exact ix_kdict
variable {tg o l e : Expr} {tl ta te : TE} {f : Str} {pos : Pos}
theorem piLK (hl : PE X l tl) : PI X tg l (iList K tl) := by subst h; exact pi_list hl
theorem piUK (hl : PE X l tl) : PI X tg l (iTup K tl) := by subst h; exact pi_tup hl
theorem fldK (he : PE X e ta) (hb : attributeBase e f X.env (eval e X.env) = eval e X.env := by rfl) : PE X (.Attribute e f pos) (tFld K ta f) := by subst h; exact pe_fld he hb
theorem conK (he : PE X e ta) (hb : attributeBase e f X.env (eval e X.env) = eval e X.env := by rfl) : PE X (.Attribute e f pos) (tCon K ta f) := by subst h; exact pe_con he hb
theorem bmK {es : List Expr} {to : TE} {t : TA} {name : Str} {apos cpos : Pos} {T id : String} {r : V → List V → Hp → VK → Prop} (pa : PlainAttrs T) (slot : Slot T name id) (hty : typeOf (.builtin id) = pure (.type "method_descriptor")) (hm : MtR X id r) (ho : PE X o to) (ha : PA X (e :: es) t)
    (hbase : attributeBase o name X.env (eval o X.env) = eval o X.env := by rfl)
    (hfew : ((backTo cpos (starEach (e :: es) X.env)).all (fun x => !x.1) && (backToKw cpos (keywordEach [] X.env)).all (fun x => x.1.isSome)
      && decide ((e :: es).length + ([] : List Keyword).length + (if ([] : List Keyword).isEmpty then 0 else 1) < 30)) = true := by rfl)
    (hline : (apos.endLine == cpos.line) = true := by rfl) (he : starEach (e :: es) X.env = (false, eval e X.env) :: starEach es X.env := by rfl) (hpl : (backTo cpos (starEach es X.env)).any (·.1) = false := by rfl) :
    PE X (.Call (.Attribute o name apos) (e :: es) [] cpos) (tBM K T r to t) := by subst h; exact pe_bm pa slot hty hm ho ha hbase hfew hline he hpl
theorem bm0K {to : TE} {name : Str} {apos cpos : Pos} {T id : String} {r : V → List V → Hp → VK → Prop} (pa : PlainAttrs T) (slot : Slot T name id) (hty : typeOf (.builtin id) = pure (.type "method_descriptor")) (hm : MtR X id r) (ho : PE X o to)
    (hbase : attributeBase o name X.env (eval o X.env) = eval o X.env := by rfl) (hline : (apos.endLine == cpos.line) = true := by rfl) : PE X (.Call (.Attribute o name apos) [] [] cpos) (tBM0 K T r to) := by subst h; exact pe_bm0 pa slot hty hm ho hbase (hline := hline)
end
theorem callInt {X : Cx} : CallR X (.type "int") rInt1 := call_int1

/-! ### statements -/
section
variable {K : PySem.W.Frag} {S : Dst} {σ : L2.St} {H H' : Hp} {ta tb tc te tx : TE} {tas : TA} {t u : TT} {x y z v : V} {r : R2} {P P' : V → Hp → Prop} {b c : Bool} {vs : List V} {D : Ends} {tu tw tz : TS} {i : Nat}
theorem s_asg (h : Ev K S te σ H v) (k : St K S tz D (σ.set i (some v)) H) : St K S (tSeq (tAsg te (gName i)) tz) D σ H := fun H1 e => h H1 e _ fun H2 e2 => k H2 (e.trans e2)
theorem s_asgX (h : EvX K S te σ H P) (k : ∀ v H1, Lx S H H1 → P v H1 → St K S tz D (σ.set i (some v)) H1) : St K S (tSeq (tAsg te (gName i)) tz) D σ H := fun H1 e => h H1 e _ fun v H2 e2 p => k v H2 (e.trans e2) p H2 (e.trans e2).refl
theorem s_asg1 (h : Ev K S te σ H v) (k : ∀ H1, Lx S H H1 → D.nx (σ.set i (some v)) H1) : St K S (tAsg te (gName i)) D σ H := fun H1 e => h H1 e _ fun H2 e2 => k H2 (e.trans e2)
theorem s_asg1X (h : EvX K S te σ H P) (k : ∀ v H1, Lx S H H1 → P v H1 → D.nx (σ.set i (some v)) H1) : St K S (tAsg te (gName i)) D σ H := fun H1 e => h H1 e _ fun v H2 e2 p => k v H2 (e.trans e2) p
theorem s_ret (h : Ev K S te σ H v) (k : ∀ H1, Lx S H H1 → D.rt v H1) : St K S (tRet te) D σ H := fun H1 e => h H1 e _ fun H2 e2 => k H2 (e.trans e2)
theorem s_retX (h : EvX K S te σ H P) (k : ∀ v H1, Lx S H H1 → P v H1 → D.rt v H1) : St K S (tRet te) D σ H := fun H1 e => h H1 e _ fun v H2 e2 p => k v H2 (e.trans e2) p
theorem s_if (h : EvT K S t σ H b) (h1 : b = true → St K S tu { D with nx := tz D } σ H) (h2 : b = false → St K S tw { D with nx := tz D } σ H) : St K S (tSeq (tIfS t tu tw) tz) D σ H := fun H1 e => h H1 e _ fun H2 e2 => by
  cases b with
  | true => exact h1 rfl H2 (e.trans e2)
  | false => exact h2 rfl H2 (e.trans e2)
theorem s_if1 (h : EvT K S t σ H b) (h1 : b = true → St K S tu D σ H) (h2 : b = false → St K S tw D σ H) : St K S (tIfS t tu tw) D σ H := fun H1 e => h H1 e _ fun H2 e2 => by
  cases b with
  | true => exact h1 rfl H2 (e.trans e2)
  | false => exact h2 rfl H2 (e.trans e2)
theorem s_ifX {PB : Bool → Hp → Prop} (h : EvTX K S t σ H PB) (h1 : ∀ H1, Lx S H H1 → PB true H1 → St K S tu { D with nx := tz D } σ H1) (h2 : ∀ H1, Lx S H H1 → PB false H1 → St K S tw { D with nx := tz D } σ H1) : St K S (tSeq (tIfS t tu tw) tz) D σ H := fun H1 e => h H1 e _ fun b H2 e2 p => by
  cases b with
  | true => exact h1 H2 (e.trans e2) p H2 (e.trans e2).refl
  | false => exact h2 H2 (e.trans e2) p H2 (e.trans e2).refl
open Evl (tCut) in
/-- an if, a word where its two ways meet -/
theorem s_ifJ (M : L2.St → Hp → Prop) (wf : ∀ σ' H', M σ' H' → Lx S H' H') (h : EvT K S t σ H b) (h1 : b = true → St K S tu { D with nx := M } σ H) (h2 : b = false → St K S tw { D with nx := M } σ H) (k : ∀ σ' H', M σ' H' → St K S tz D σ' H') : St K S (tCut (tIfS t tu tw) tz) D σ H := fun H1 e =>
  ⟨M, h H1 e _ fun H2 e2 => by
    cases b with
    | true => exact h1 rfl H2 (e.trans e2)
    | false => exact h2 rfl H2 (e.trans e2), fun σ' H' m => k σ' H' m H' (wf σ' H' m)⟩
open Evl (tCut) in
theorem s_ifc (h : EvT K S t σ H b) (h1 : b = true → St K S tu { D with nx := tz D } σ H) (h2 : b = false → St K S tw { D with nx := tz D } σ H) : St K S (tCut (tIfS t tu tw) tz) D σ H := fun H1 e =>
  ⟨tz D, h H1 e _ fun H2 e2 => by
    cases b with
    | true => exact h1 rfl H2 (e.trans e2)
    | false => exact h2 rfl H2 (e.trans e2), fun _ _ m => m⟩
theorem s_next (k : St K S tz D σ H) : St K S tNext { D with nx := tz D } σ H := k
open Evl (tCut) in
theorem s_ifJX {PB : Bool → Hp → Prop} (M : L2.St → Hp → Prop) (wf : ∀ σ' H', M σ' H' → Lx S H' H') (h : EvTX K S t σ H PB) (h1 : ∀ H1, Lx S H H1 → PB true H1 → St K S tu { D with nx := M } σ H1) (h2 : ∀ H1, Lx S H H1 → PB false H1 → St K S tw { D with nx := M } σ H1) (k : ∀ σ' H', M σ' H' → St K S tz D σ' H') : St K S (tCut (tIfS t tu tw) tz) D σ H := fun H1 e =>
  ⟨M, h H1 e _ fun b H2 e2 p => by
    cases b with
    | true => exact h1 H2 (e.trans e2) p H2 (e.trans e2).refl
    | false => exact h2 H2 (e.trans e2) p H2 (e.trans e2).refl, fun σ' H' m => k σ' H' m H' (wf σ' H' m)⟩
open Evl (tCut) in
theorem s_ifcX {PB : Bool → Hp → Prop} (h : EvTX K S t σ H PB) (h1 : ∀ H1, Lx S H H1 → PB true H1 → St K S tu { D with nx := tz D } σ H1) (h2 : ∀ H1, Lx S H H1 → PB false H1 → St K S tw { D with nx := tz D } σ H1) : St K S (tCut (tIfS t tu tw) tz) D σ H := fun H1 e =>
  ⟨tz D, h H1 e _ fun b H2 e2 p => by
    cases b with
    | true => exact h1 H2 (e.trans e2) p H2 (e.trans e2).refl
    | false => exact h2 H2 (e.trans e2) p H2 (e.trans e2).refl, fun _ _ m => m⟩
theorem s_if1X {PB : Bool → Hp → Prop} (h : EvTX K S t σ H PB) (h1 : ∀ H1, Lx S H H1 → PB true H1 → St K S tu D σ H1) (h2 : ∀ H1, Lx S H H1 → PB false H1 → St K S tw D σ H1) : St K S (tIfS t tu tw) D σ H := fun H1 e => h H1 e _ fun b H2 e2 p => by
  cases b with
  | true => exact h1 H2 (e.trans e2) p H2 (e.trans e2).refl
  | false => exact h2 H2 (e.trans e2) p H2 (e.trans e2).refl
theorem s_nx (k : ∀ H1, Lx S H H1 → D.nx σ H1) : St K S tNext D σ H := k
theorem s_drop (h : Ev K S te σ H v) (k : St K S tz D σ H) : St K S (tSeq (tDrop te) tz) D σ H := fun H1 e => h H1 e _ fun H2 e2 => k H2 (e.trans e2)
theorem s_dropX (h : EvX K S te σ H P) (k : ∀ v H1, Lx S H H1 → P v H1 → St K S tz D σ H1) : St K S (tSeq (tDrop te) tz) D σ H := fun H1 e => h H1 e _ fun v H2 e2 p => k v H2 (e.trans e2) p H2 (e.trans e2).refl
theorem s_aug {f : Int → Int → Int} {a b : Int} (hx : σ[i]? = some (some (.int a))) (h : Ev K S te σ H (.int b)) (k : St K S tz D (σ.set i (some (.int (f a b)))) H) : St K S (tSeq (tAug i te (ipI f)) tz) D σ H := fun H1 e => ⟨_, hx, h H1 e _ fun H2 e2 => ⟨a, b, rfl, rfl, k H2 (e.trans e2)⟩⟩
theorem s_aug1 {f : Int → Int → Int} {a b : Int} (hx : σ[i]? = some (some (.int a))) (h : Ev K S te σ H (.int b)) (k : ∀ H1, Lx S H H1 → D.nx (σ.set i (some (.int (f a b)))) H1) : St K S (tAug i te (ipI f)) D σ H := fun H1 e => ⟨_, hx, h H1 e _ fun H2 e2 => ⟨a, b, rfl, rfl, k H2 (e.trans e2)⟩⟩

theorem s_setL {l : Addr} {xs : List V} {j : Int} {n : Nat} (h : Ev K S te σ H v) (ho : Ev K S ta σ H (.ref l)) (hi : Ev K S tb σ H (.int j)) (hl : H l = some (.lst xs)) (hj : ixN xs.length j = some n) (ns : ¬ Sx S l)
    (k : St K S tz D σ (upd H l (.lst (xs.set n v)))) : St K S (tSeq (tAsg te (gSub ta tb rSetL)) tz) D σ H := fun H1 e => h H1 e _ fun H2 e2 => ho H2 (e.trans e2) _ fun H3 e3 => hi H3 ((e.trans e2).trans e3) _ fun H4 e4 =>
  have e5 := ((e.trans e2).trans e3).trans e4
  ⟨l, xs, j, n, rfl, rfl, e5.1 l _ ns hl, hj, k _ (e5.upd ns)⟩
theorem s_setL1 {l : Addr} {xs : List V} {j : Int} {n : Nat} (h : Ev K S te σ H v) (ho : Ev K S ta σ H (.ref l)) (hi : Ev K S tb σ H (.int j)) (hl : H l = some (.lst xs)) (hj : ixN xs.length j = some n) (ns : ¬ Sx S l)
    (k : ∀ H1, Lx S (upd H l (.lst (xs.set n v))) H1 → D.nx σ H1) : St K S (tAsg te (gSub ta tb rSetL)) D σ H := fun H1 e => h H1 e _ fun H2 e2 => ho H2 (e.trans e2) _ fun H3 e3 => hi H3 ((e.trans e2).trans e3) _ fun H4 e4 =>
  have e5 := ((e.trans e2).trans e3).trans e4
  ⟨l, xs, j, n, rfl, rfl, e5.1 l _ ns hl, hj, k _ (e5.upd ns)⟩
theorem s_setLX {l : Addr} (h : Ev K S te σ H v) (ho : Ev K S ta σ H (.ref l)) (hi : EvX K S tb σ H P) (ns : ¬ Sx S l)
    (k : ∀ i H1, Lx S H H1 → P i H1 → ∃ (xs : List V) (j : Int) (n : Nat), i = .int j ∧ H1 l = some (.lst xs) ∧ ixN xs.length j = some n ∧ St K S tz D σ (upd H1 l (.lst (xs.set n v)))) : St K S (tSeq (tAsg te (gSub ta tb rSetL)) tz) D σ H := fun H1 e => h H1 e _ fun H2 e2 => ho H2 (e.trans e2) _ fun H3 e3 => hi H3 ((e.trans e2).trans e3) _ fun i H4 e4 p => by
  have e5 := ((e.trans e2).trans e3).trans e4
  obtain ⟨xs, j, n, rfl, hl, hj, z⟩ := k i H4 e5 p
  exact ⟨l, xs, j, n, rfl, rfl, hl, hj, z _ (e5.refl.upd ns)⟩
theorem s_app {l : Addr} {xs : List V} (hl : H l = some (.lst xs)) (ns : ¬ Sx S l) (ha : Ev K S ta σ H (.ref l)) (h : Ev K S te σ H v) (hz : xs.length < sizeLine) (k : St K S tz D σ (upd H l (.lst (xs ++ [v])))) :
    St K S (tSeq (tDrop (tBM K "list" rAppend ta (tCons te tNil))) tz) D σ H := fun H1 e => ha H1 e _ fun H2 e2 => ⟨.inl ⟨rfl, _, SqL.of ((e.trans e2).1 l _ ns hl)⟩, h H2 (e.trans e2) _ fun H3 e3 =>
  have e5 := (e.trans e2).trans e3
  ⟨l, xs, v, rfl, rfl, e5.1 l _ ns hl, hz, k _ (e5.upd ns)⟩⟩
theorem s_app1 {l : Addr} {xs : List V} (hl : H l = some (.lst xs)) (ns : ¬ Sx S l) (ha : Ev K S ta σ H (.ref l)) (h : Ev K S te σ H v) (hz : xs.length < sizeLine) (k : ∀ H1, Lx S (upd H l (.lst (xs ++ [v]))) H1 → D.nx σ H1) :
    St K S (tDrop (tBM K "list" rAppend ta (tCons te tNil))) D σ H := fun H1 e => ha H1 e _ fun H2 e2 => ⟨.inl ⟨rfl, _, SqL.of ((e.trans e2).1 l _ ns hl)⟩, h H2 (e.trans e2) _ fun H3 e3 =>
  have e5 := (e.trans e2).trans e3
  ⟨l, xs, v, rfl, rfl, e5.1 l _ ns hl, hz, k _ (e5.upd ns)⟩⟩
/-- what is appended is made on the way -/
theorem s_appX {l : Addr} {xs : List V} (hl : H l = some (.lst xs)) (ns : ¬ Sx S l) (ha : Ev K S ta σ H (.ref l)) (h : EvX K S te σ H P) (hz : xs.length < sizeLine) (k : ∀ v H1, Lx S H H1 → P v H1 → St K S tz D σ (upd H1 l (.lst (xs ++ [v])))) :
    St K S (tSeq (tDrop (tBM K "list" rAppend ta (tCons te tNil))) tz) D σ H := fun H1 e => ha H1 e _ fun H2 e2 => ⟨.inl ⟨rfl, _, SqL.of ((e.trans e2).1 l _ ns hl)⟩, h H2 (e.trans e2) _ fun v H3 e3 p =>
  have e5 := (e.trans e2).trans e3
  ⟨l, xs, v, rfl, rfl, e5.1 l _ ns hl, hz, k v H3 e5 p _ (e5.refl.upd ns)⟩⟩
theorem s_appX1 {l : Addr} {xs : List V} (hl : H l = some (.lst xs)) (ns : ¬ Sx S l) (ha : Ev K S ta σ H (.ref l)) (h : EvX K S te σ H P) (hz : xs.length < sizeLine) (k : ∀ v H1, Lx S H H1 → P v H1 → ∀ H2, Lx S (upd H1 l (.lst (xs ++ [v]))) H2 → D.nx σ H2) :
    St K S (tDrop (tBM K "list" rAppend ta (tCons te tNil))) D σ H := fun H1 e => ha H1 e _ fun H2 e2 => ⟨.inl ⟨rfl, _, SqL.of ((e.trans e2).1 l _ ns hl)⟩, h H2 (e.trans e2) _ fun v H3 e3 p =>
  have e5 := (e.trans e2).trans e3
  ⟨l, xs, v, rfl, rfl, e5.1 l _ ns hl, hz, k v H3 e5 p _ (e5.refl.upd ns)⟩⟩
/-! loops: Pv holds between the turns -/
theorem s_forL {a : Addr} {xs : List V} {tl : TE} {g : TG} (h : Ev K S tl σ H (.ref a)) (hx : LA K S H a xs) (Pv : Nat → L2.St → Hp → Prop) (h0 : ∀ H1, Lx S H H1 → Pv 0 σ H1) (hl : ∀ i σ' H', i ≤ xs.length → Pv i σ' H' → LA K S H' a xs)
    (hs : ∀ i x σ' H', xs[i]? = some x → Pv i σ' H' → g x σ' H' fun σ2 H2 => tu { D with nx := Pv (i + 1), ct := Pv (i + 1), bk := tz D } σ2 H2) (hd : ∀ σ' H', Pv xs.length σ' H' → tz D σ' H') : St K S (tSeq (tFor (iList K tl) g tu) tz) D σ H := fun H1 e =>
  h H1 e _ fun H2 e2 => ⟨a, rfl, ⟨xs, (hx.mono (e.trans e2)).q⟩, for_list (xs := xs) (D := { D with nx := tz D }) Pv (h0 H2 (e.trans e2)) (fun i σ' H' hi p => (hl i σ' H' hi p).q) hs hd⟩
theorem s_forL1 {a : Addr} {xs : List V} {tl : TE} {g : TG} (h : Ev K S tl σ H (.ref a)) (hx : LA K S H a xs) (Pv : Nat → L2.St → Hp → Prop) (h0 : ∀ H1, Lx S H H1 → Pv 0 σ H1) (hl : ∀ i σ' H', i ≤ xs.length → Pv i σ' H' → LA K S H' a xs)
    (hs : ∀ i x σ' H', xs[i]? = some x → Pv i σ' H' → g x σ' H' fun σ2 H2 => tu { D with nx := Pv (i + 1), ct := Pv (i + 1), bk := D.nx } σ2 H2) (hd : ∀ σ' H', Pv xs.length σ' H' → D.nx σ' H') : St K S (tFor (iList K tl) g tu) D σ H := fun H1 e =>
  h H1 e _ fun H2 e2 => ⟨a, rfl, ⟨xs, (hx.mono (e.trans e2)).q⟩, for_list (xs := xs) Pv (h0 H2 (e.trans e2)) (fun i σ' H' hi p => (hl i σ' H' hi p).q) hs hd⟩
theorem s_forR1 {tas : TA} {g : TG} {n : Int} (h : EvA K S tas σ H [.int n]) (hn : n ≤ 1000000 ∧ -1000000 ≤ n) (Pv : Nat → L2.St → Hp → Prop) (h0 : ∀ H1, Lx S H H1 → Pv 0 σ H1)
    (hs : ∀ (i : Nat) σ' H', (i : Int) < n → Pv i σ' H' → g (.int i) σ' H' fun σ2 H2 => tu { D with nx := Pv (i + 1), ct := Pv (i + 1), bk := tz D } σ2 H2) (hd : ∀ σ' H', Pv n.toNat σ' H' → tz D σ' H') : St K S (tSeq (tFor (iRng1 tas) g tu) tz) D σ H := fun H1 e =>
  h H1 e _ fun H2 e2 => ⟨n, rfl, by omega, by omega, for_range (lo := 0) (n := n.toNat) (D := { D with nx := tz D }) Pv (h0 H2 (e.trans e2)) (fun i σ' H' hi p => by
    have q := hs i σ' H' (by omega) p
    rw [show (0 : Int) + (i : Int) = (i : Int) from Int.zero_add _]
    exact q) hd⟩
theorem s_forR11 {tas : TA} {g : TG} {n : Int} (h : EvA K S tas σ H [.int n]) (hn : n ≤ 1000000 ∧ -1000000 ≤ n) (Pv : Nat → L2.St → Hp → Prop) (h0 : ∀ H1, Lx S H H1 → Pv 0 σ H1)
    (hs : ∀ (i : Nat) σ' H', (i : Int) < n → Pv i σ' H' → g (.int i) σ' H' fun σ2 H2 => tu { D with nx := Pv (i + 1), ct := Pv (i + 1), bk := D.nx } σ2 H2) (hd : ∀ σ' H', Pv n.toNat σ' H' → D.nx σ' H') : St K S (tFor (iRng1 tas) g tu) D σ H := fun H1 e =>
  h H1 e _ fun H2 e2 => ⟨n, rfl, by omega, by omega, for_range (lo := 0) (n := n.toNat) Pv (h0 H2 (e.trans e2)) (fun i σ' H' hi p => by
    have q := hs i σ' H' (by omega) p
    rw [show (0 : Int) + (i : Int) = (i : Int) from Int.zero_add _]
    exact q) hd⟩
theorem s_forR2 {tas : TA} {g : TG} {m n : Int} (h : EvA K S tas σ H [.int m, .int n]) (hn : n ≤ 1000000 ∧ -1000000 ≤ n ∧ m ≤ 1000000 ∧ -1000000 ≤ m) (Pv : Nat → L2.St → Hp → Prop) (h0 : ∀ H1, Lx S H H1 → Pv 0 σ H1)
    (hs : ∀ (i : Nat) σ' H', m + (i : Int) < n → Pv i σ' H' → g (.int (m + i)) σ' H' fun σ2 H2 => tu { D with nx := Pv (i + 1), ct := Pv (i + 1), bk := tz D } σ2 H2) (hd : ∀ σ' H', Pv (n - m).toNat σ' H' → tz D σ' H') : St K S (tSeq (tFor (iRng2 tas) g tu) tz) D σ H := fun H1 e =>
  h H1 e _ fun H2 e2 => ⟨m, n, rfl, by omega, for_range (lo := m) (n := (n - m).toNat) (D := { D with nx := tz D }) Pv (h0 H2 (e.trans e2)) (fun i σ' H' hi p => hs i σ' H' (by omega) p) hd⟩
theorem s_forT {a : Addr} {xs : List V} {tl : TE} {g : TG} (h : Ev K S tl σ H (.ref a)) (hx : UA K S H a xs) (Pv : Nat → L2.St → Hp → Prop) (h0 : ∀ H1, Lx S H H1 → Pv 0 σ H1) (hl : ∀ i σ' H', i ≤ xs.length → Pv i σ' H' → UA K S H' a xs)
    (hs : ∀ i x σ' H', xs[i]? = some x → Pv i σ' H' → g x σ' H' fun σ2 H2 => tu { D with nx := Pv (i + 1), ct := Pv (i + 1), bk := tz D } σ2 H2) (hd : ∀ σ' H', Pv xs.length σ' H' → tz D σ' H') : St K S (tSeq (tFor (iTup K tl) g tu) tz) D σ H := fun H1 e =>
  h H1 e _ fun H2 e2 => ⟨a, rfl, ⟨xs, (hx.mono (e.trans e2)).q⟩, for_tup (xs := xs) (D := { D with nx := tz D }) Pv (h0 H2 (e.trans e2)) (fun i σ' H' hi p => (hl i σ' H' hi p).q) hs hd⟩
theorem s_while (W : Nat → L2.St → Hp → Prop) (m0 : Nat) (h0 : ∀ H1, Lx S H H1 → W m0 σ H1)
    (hs : ∀ m σ' H', W m σ' H' → EvTX K S t σ' H' fun b H1 => (b = true → ∃ N : L2.St → Hp → Prop, (∀ σ2 H2, N σ2 H2 → ∃ m', m' < m ∧ W m' σ2 H2) ∧ tu { D with nx := N, ct := N, bk := tz D } σ' H1) ∧ (b = false → tz D σ' H1))
    (wf : ∀ m σ' H', W m σ' H' → Lx S H' H') : St K S (tSeq (tWhile t tu) tz) D σ H := fun H1 e => ⟨W, ⟨m0, h0 H1 e⟩, fun m σ' H' w => hs m σ' H' w H' (wf m σ' H' w) _ fun b H2 e2 p => by
  cases b with
  | true =>
    obtain ⟨N, n1, n2⟩ := p.1 rfl
    show ∃ N : L2.St → Hp → Prop, _
    exact ⟨N, n1, n2⟩
  | false => exact p.2 rfl⟩
/-! comprehensions: Pv D i acc H, acc what is made so far, at D -/
theorem ex_lcL {a : Addr} {xs : List V} {tl : TE} {j : Nat} {ws : List Nat} (h : Ev K S tl σ H (.ref a)) (hx : LA K S H a xs) (hz : xs.length < sizeLine) (hw : ∀ x, wipe ((wipe σ ws).set j (some x)) ws = wipe σ ws)
    (Pv : Addr → Nat → List V → Hp → Prop) (h0 : ∀ D H1, H D = none → Lx S H H1 → H1 D = some (.lst []) → Pv D 0 [] H1)
    (hs : ∀ D i x acc H1, H D = none → H1 D = some (.lst acc) → xs[i]? = some x → Lx S H H1 → Pv D i acc H1 → EvTX K S t ((wipe σ ws).set j (some x)) H1 fun b H2 =>
      (b = true → EvX K S te ((wipe σ ws).set j (some x)) H2 fun y H3 => Pv D (i + 1) (acc ++ [y]) (upd H3 D (.lst (acc ++ [y])))) ∧ (b = false → Pv D (i + 1) acc H2)) :
    EvX K S (tLc (iList K tl) (gName j) t te ws) σ H (fun v H2 => ∃ p acc, v = .ref p ∧ H p = none ∧ ¬ Sx S p ∧ H2 p = some (.lst acc) ∧ acc.length ≤ xs.length ∧ Pv p xs.length acc H2) := fun H0 e Q q => h H0 e _ fun H1 e1 => ⟨a, rfl, ⟨xs, (hx.mono (e.trans e1)).q⟩, fun Dl hD => by
  have w1 : Lx S H H1 := e.trans e1
  have nD : ¬ Sx S Dl := w1.ns hD
  have fD : H Dl = none := w1.fresh hD
  refine lc_list (xs := xs) (fun i H' => ∃ acc, H' Dl = some (.lst acc) ∧ acc.length ≤ i ∧ Lx S H1 H' ∧ Pv Dl i acc H') ⟨[], upd_same, Nat.le_refl _, w1.new hD, h0 Dl _ fD (w1.trans (w1.new hD)) upd_same⟩ (fun i H' _ ⟨acc, _, _, e2, _⟩ => (hx.mono (w1.trans e2)).q) ?_ ?_
  · rintro i x H' hi ⟨acc, g1, g2, e2, p⟩
    refine ⟨hw x, hs Dl i x acc H' fD g1 hi (w1.trans e2) p H' e2.refl _ fun b H2 e3 pb => ?_⟩
    cases b with
    | true =>
      show te _ H2 _
      refine pb.1 rfl H2 ((w1.trans e2).trans e3).refl _ fun y H3 e4 py => ⟨acc, e4.1 _ _ nD (e3.1 _ _ nD g1), Nat.lt_of_le_of_lt g2 (Nat.lt_of_lt_of_le ((List.getElem?_eq_some_iff.mp hi).1) (Nat.le_of_lt hz)), acc ++ [y], upd_same, ?_, ?_, py⟩
      · rw [List.length_append]; exact Nat.succ_le_succ g2
      · have e5 := (e2.trans e3).trans e4
        exact e5.put nD fun u z => by rw [hD] at z; cases z
    | false =>
      show ∃ acc, _
      exact ⟨acc, e3.1 _ _ nD g1, Nat.le_succ_of_le g2, e2.trans e3, pb.2 rfl⟩
  · rintro H' ⟨acc, g1, g2, e2, p⟩
    exact q _ _ (e1.trans e2) ⟨Dl, acc, rfl, fD, nD, g1, g2, p⟩⟩
theorem ex_lcR {n : Int} {tas : TA} {j : Nat} {ws : List Nat} (h : EvA K S tas σ H [.int n]) (hn : n ≤ 1000000 ∧ -1000000 ≤ n) (hw : ∀ x, wipe ((wipe σ ws).set j (some x)) ws = wipe σ ws)
    (Pv : Addr → Nat → List V → Hp → Prop) (h0 : ∀ D H1, H D = none → Lx S H H1 → H1 D = some (.lst []) → Pv D 0 [] H1)
    (hs : ∀ D (i : Nat) acc H1, H D = none → H1 D = some (.lst acc) → (i : Int) < n → Lx S H H1 → Pv D i acc H1 → EvTX K S t ((wipe σ ws).set j (some (.int i))) H1 fun b H2 =>
      (b = true → EvX K S te ((wipe σ ws).set j (some (.int i))) H2 fun y H3 => Pv D (i + 1) (acc ++ [y]) (upd H3 D (.lst (acc ++ [y])))) ∧ (b = false → Pv D (i + 1) acc H2)) :
    EvX K S (tLc (iRng1 tas) (gName j) t te ws) σ H (fun v H2 => ∃ p acc, v = .ref p ∧ H p = none ∧ ¬ Sx S p ∧ H2 p = some (.lst acc) ∧ acc.length ≤ n.toNat ∧ Pv p n.toNat acc H2) := fun H0 e Q q => h H0 e _ fun H1 e1 => ⟨n, rfl, by omega, by omega, fun Dl hD => by
  have w1 : Lx S H H1 := e.trans e1
  have nD : ¬ Sx S Dl := w1.ns hD
  have fD : H Dl = none := w1.fresh hD
  refine lc_range (lo := 0) (n := n.toNat) (fun i H' => ∃ acc, H' Dl = some (.lst acc) ∧ acc.length ≤ i ∧ Lx S H1 H' ∧ Pv Dl i acc H') ⟨[], upd_same, Nat.le_refl _, w1.new hD, h0 Dl _ fD (w1.trans (w1.new hD)) upd_same⟩ ?_ ?_
  · rintro i H' hi ⟨acc, g1, g2, e2, p⟩
    show wipe ((wipe σ ws).set j (some (.int ((0 : Int) + (i : Int))))) ws = wipe σ ws ∧ t ((wipe σ ws).set j (some (.int ((0 : Int) + (i : Int))))) H' _
    rw [show (0 : Int) + (i : Int) = (i : Int) from Int.zero_add _]
    refine ⟨hw _, hs Dl i acc H' fD g1 (by omega) (w1.trans e2) p H' e2.refl _ fun b H2 e3 pb => ?_⟩
    cases b with
    | true =>
      show te _ H2 _
      refine pb.1 rfl H2 ((w1.trans e2).trans e3).refl _ fun y H3 e4 py => ⟨acc, e4.1 _ _ nD (e3.1 _ _ nD g1), Nat.lt_of_le_of_lt g2 (by have : sizeLine = 16777216 := sizeLine_eq; omega), acc ++ [y], upd_same, ?_, ?_, py⟩
      · rw [List.length_append]; exact Nat.succ_le_succ g2
      · have e5 := (e2.trans e3).trans e4
        exact e5.put nD fun u z => by rw [hD] at z; cases z
    | false =>
      show ∃ acc, _
      exact ⟨acc, e3.1 _ _ nD g1, Nat.le_succ_of_le g2, e2.trans e3, pb.2 rfl⟩
  · rintro H' ⟨acc, g1, g2, e2, p⟩
    exact q _ _ (e1.trans e2) ⟨Dl, acc, rfl, fD, nD, g1, g2, p⟩⟩
theorem et_yes : EvTX K S tYes σ H (fun b _ => b = true) := fun H1 e _ q => q true H1 e.refl rfl
/-- each item a value: [f x for x in xs] -/
theorem ex_map {a : Addr} {xs : List V} {tl : TE} {j : Nat} {ws : List Nat} (f : V → V) (h : Ev K S tl σ H (.ref a)) (hx : LA K S H a xs) (hz : xs.length < sizeLine) (hw : ∀ x, wipe ((wipe σ ws).set j (some x)) ws = wipe σ ws)
    (hs : ∀ x ∈ xs, Ev K S te ((wipe σ ws).set j (some x)) H (f x)) : EvX K S (tLc (iList K tl) (gName j) tYes te ws) σ H (NewL S H (xs.map f)) := by
  refine (ex_lcL h hx hz hw (fun _ i acc _ => acc = (xs.take i).map f) (fun _ _ _ _ _ => by simp) ?_).imp ?_
  · intro D i x acc H1 _ _ hi e p H2 e2 Q q
    refine q true H2 e2.refl ⟨fun _ H3 e3 Q3 q3 => hs x (List.mem_of_getElem? hi) H3 ((e.trans e2).trans e3) _ fun H4 e4 => q3 _ _ e4 ?_, fun z => nomatch z⟩
    rw [p, List.take_succ, hi]
    simp
  · rintro v H2 e ⟨p, acc, rfl, f1, f2, f3, _, g⟩
    rw [List.take_length] at g
    subst g
    exact ⟨p, rfl, f1, f2, f3⟩
theorem ex_filterMap {a : Addr} {xs : List V} {tl : TE} {j : Nat} {ws : List Nat} (g : V → Bool) (f : V → V) (h : Ev K S tl σ H (.ref a)) (hx : LA K S H a xs) (hz : xs.length < sizeLine) (hw : ∀ x, wipe ((wipe σ ws).set j (some x)) ws = wipe σ ws)
    (ht : ∀ x ∈ xs, EvT K S t ((wipe σ ws).set j (some x)) H (g x)) (hs : ∀ x ∈ xs, g x = true → Ev K S te ((wipe σ ws).set j (some x)) H (f x)) : EvX K S (tLc (iList K tl) (gName j) t te ws) σ H (NewL S H ((xs.filter g).map f)) := by
  refine (ex_lcL h hx hz hw (fun _ i acc _ => acc = ((xs.take i).filter g).map f) (fun _ _ _ _ _ => by simp) ?_).imp ?_
  · intro D i x acc H1 _ _ hi e p H2 e2 Q q
    refine ht x (List.mem_of_getElem? hi) H2 (e.trans e2) _ fun H3 e3 => q (g x) H3 e3 ⟨fun b H4 e4 Q4 q4 => hs x (List.mem_of_getElem? hi) b H4 (((e.trans e2).trans e3).trans e4) _ fun H5 e5 => q4 _ _ e5 ?_, fun b => ?_⟩
    · rw [p, List.take_succ, hi]
      simp [List.filter_append, b]
    · rw [p, List.take_succ, hi]
      simp [List.filter_append, b]
  · rintro v H2 e ⟨p, acc, rfl, f1, f2, f3, _, g⟩
    rw [List.take_length] at g
    subst g
    exact ⟨p, rfl, f1, f2, f3⟩
end
/-! loops whose target is a name -/
section
variable {K : PySem.W.Frag} {S : Dst} {σ : L2.St} {H H' : Hp} {tas : TA} {tl : TE} {D : Ends} {tu tz : TS} {j : Nat}
theorem s_forLn {a : Addr} {xs : List V} (h : Ev K S tl σ H (.ref a)) (hx : LA K S H a xs) (Pv : Nat → L2.St → Hp → Prop) (wf : ∀ i σ' H', Pv i σ' H' → Lx S H' H') (h0 : ∀ H1, Lx S H H1 → Pv 0 σ H1) (hl : ∀ i σ' H', i ≤ xs.length → Pv i σ' H' → LA K S H' a xs)
    (hs : ∀ i x σ' H', xs[i]? = some x → Pv i σ' H' → St K S tu { D with nx := Pv (i + 1), ct := Pv (i + 1), bk := tz D } (σ'.set j (some x)) H') (hd : ∀ σ' H', Pv xs.length σ' H' → St K S tz D σ' H') : St K S (tSeq (tFor (iList K tl) (gName j) tu) tz) D σ H :=
  s_forL h hx Pv h0 hl (fun i x σ' H' hi p => hs i x σ' H' hi p H' (wf i σ' H' p)) (fun σ' H' p => hd σ' H' p H' (wf _ σ' H' p))
theorem s_forLn1 {a : Addr} {xs : List V} (h : Ev K S tl σ H (.ref a)) (hx : LA K S H a xs) (Pv : Nat → L2.St → Hp → Prop) (wf : ∀ i σ' H', Pv i σ' H' → Lx S H' H') (h0 : ∀ H1, Lx S H H1 → Pv 0 σ H1) (hl : ∀ i σ' H', i ≤ xs.length → Pv i σ' H' → LA K S H' a xs)
    (hs : ∀ i x σ' H', xs[i]? = some x → Pv i σ' H' → St K S tu { D with nx := Pv (i + 1), ct := Pv (i + 1), bk := D.nx } (σ'.set j (some x)) H') (hd : ∀ σ' H', Pv xs.length σ' H' → D.nx σ' H') : St K S (tFor (iList K tl) (gName j) tu) D σ H :=
  s_forL1 h hx Pv h0 hl (fun i x σ' H' hi p => hs i x σ' H' hi p H' (wf i σ' H' p)) (hd)
theorem s_forTn {a : Addr} {xs : List V} (h : Ev K S tl σ H (.ref a)) (hx : UA K S H a xs) (Pv : Nat → L2.St → Hp → Prop) (wf : ∀ i σ' H', Pv i σ' H' → Lx S H' H') (h0 : ∀ H1, Lx S H H1 → Pv 0 σ H1) (hl : ∀ i σ' H', i ≤ xs.length → Pv i σ' H' → UA K S H' a xs)
    (hs : ∀ i x σ' H', xs[i]? = some x → Pv i σ' H' → St K S tu { D with nx := Pv (i + 1), ct := Pv (i + 1), bk := tz D } (σ'.set j (some x)) H') (hd : ∀ σ' H', Pv xs.length σ' H' → St K S tz D σ' H') : St K S (tSeq (tFor (iTup K tl) (gName j) tu) tz) D σ H :=
  s_forT h hx Pv h0 hl (fun i x σ' H' hi p => hs i x σ' H' hi p H' (wf i σ' H' p)) (fun σ' H' p => hd σ' H' p H' (wf _ σ' H' p))
theorem s_forRn {n : Int} (h : EvA K S tas σ H [.int n]) (hn : n ≤ 1000000 ∧ -1000000 ≤ n) (Pv : Nat → L2.St → Hp → Prop) (wf : ∀ i σ' H', Pv i σ' H' → Lx S H' H') (h0 : ∀ H1, Lx S H H1 → Pv 0 σ H1)
    (hs : ∀ (i : Nat) σ' H', (i : Int) < n → Pv i σ' H' → St K S tu { D with nx := Pv (i + 1), ct := Pv (i + 1), bk := tz D } (σ'.set j (some (.int i))) H') (hd : ∀ σ' H', Pv n.toNat σ' H' → St K S tz D σ' H') : St K S (tSeq (tFor (iRng1 tas) (gName j) tu) tz) D σ H :=
  s_forR1 h hn Pv h0 (fun i σ' H' hi p => hs i σ' H' hi p H' (wf i σ' H' p)) (fun σ' H' p => hd σ' H' p H' (wf _ σ' H' p))
theorem s_forRn1 {n : Int} (h : EvA K S tas σ H [.int n]) (hn : n ≤ 1000000 ∧ -1000000 ≤ n) (Pv : Nat → L2.St → Hp → Prop) (wf : ∀ i σ' H', Pv i σ' H' → Lx S H' H') (h0 : ∀ H1, Lx S H H1 → Pv 0 σ H1)
    (hs : ∀ (i : Nat) σ' H', (i : Int) < n → Pv i σ' H' → St K S tu { D with nx := Pv (i + 1), ct := Pv (i + 1), bk := D.nx } (σ'.set j (some (.int i))) H') (hd : ∀ σ' H', Pv n.toNat σ' H' → D.nx σ' H') : St K S (tFor (iRng1 tas) (gName j) tu) D σ H :=
  s_forR11 h hn Pv h0 (fun i σ' H' hi p => hs i σ' H' hi p H' (wf i σ' H' p)) (hd)
theorem s_forQn {m n : Int} (h : EvA K S tas σ H [.int m, .int n]) (hn : n ≤ 1000000 ∧ -1000000 ≤ n ∧ m ≤ 1000000 ∧ -1000000 ≤ m) (Pv : Nat → L2.St → Hp → Prop) (wf : ∀ i σ' H', Pv i σ' H' → Lx S H' H') (h0 : ∀ H1, Lx S H H1 → Pv 0 σ H1)
    (hs : ∀ (i : Nat) σ' H', m + (i : Int) < n → Pv i σ' H' → St K S tu { D with nx := Pv (i + 1), ct := Pv (i + 1), bk := tz D } (σ'.set j (some (.int (m + i)))) H') (hd : ∀ σ' H', Pv (n - m).toNat σ' H' → St K S tz D σ' H') : St K S (tSeq (tFor (iRng2 tas) (gName j) tu) tz) D σ H :=
  s_forR2 h hn Pv h0 (fun i σ' H' hi p => hs i σ' H' hi p H' (wf i σ' H' p)) (fun σ' H' p => hd σ' H' p H' (wf _ σ' H' p))
theorem go {ts : TS} {σ' : L2.St} (e : σ = σ') (h : St K none ts D σ' H) : ts D σ H := by
  subst e
  exact h H Lx.rfl0
theorem lx_start {st l : Addr} (d : Drw H st l) : Lx (some (st, l)) H H := ⟨fun _ _ _ e => e, fun p hp => by cases hp; exact d⟩
/-- a drawing state has been made -/
theorem s_S {ts : TS} {st l : Addr} (d : Drw H st l) (h : St K (some (st, l)) ts D σ H) : St K none ts D σ H := fun H1 e => h H1 ((lx_start d).of0 e)
theorem goS {ts : TS} {σ' : L2.St} {st l : Addr} (e : σ = σ') (d : Drw H st l) (h : St K (some (st, l)) ts D σ' H) : ts D σ H := by
  subst e
  exact h H (lx_start d)
theorem ns_of {st l b : Addr} (h1 : b ≠ st) (h2 : b ≠ l) : ¬ Sx (some (st, l)) b := fun ⟨p, hp, z⟩ => by
  cases hp
  rcases z with z | z
  · exact h1 z
  · exact h2 z
theorem wf0 {Pv : Nat → L2.St → Hp → Prop} : ∀ i σ' H', Pv i σ' H' → Lx none H' H' := fun _ _ _ _ => Lx.rfl0
end
/-! ### the drawing -/
section
variable {K : PySem.W.Frag} {S : Dst} {σ : L2.St} {H : Hp}
def sp_draw : Sp := fun vs H Q _ => ∃ (st l : Addr) (m : Int), vs = [.ref st, .int m] ∧ 0 < m ∧ m < 1073741824 ∧ Drw H st l ∧ ∀ r H', 0 ≤ r → r < m → Drw H' st l → (∀ b o, b ≠ st → H b = some o → H' b = some o) → Q (.int r) H'
/-- what a draw gives: any number below m -/
abbrev Drawn (m : Int) : V → Hp → Prop := fun v _ => ∃ r : Int, v = .int r ∧ 0 ≤ r ∧ r < m
theorem spx_draw {st l : Addr} {m : Int} {E : XK} (h0 : 0 < m) (h1 : m < 1073741824) : SpX K (some (st, l)) sp_draw [.ref st, .int m] H E (Drawn m) := by
  intro H1 e Q q
  refine ⟨st, l, m, rfl, h0, h1, e.2 (st, l) rfl, fun r H' r0 r1 d k => q _ _ ⟨fun b o nb eb => k b o (fun z => nb ⟨_, rfl, .inl z⟩) eb, fun p hp => ?_⟩ ⟨r, rfl, r0, r1⟩⟩
  cases hp
  exact d
theorem ex_draw {st l : Addr} {m : Int} {E : XK} {ta tm : TE} (hs : Ev K (some (st, l)) ta σ H (.ref st)) (hm : Ev K (some (st, l)) tm σ H (.int m)) (h0 : 0 < m) (h1 : m < 1073741824) :
    EvX K (some (st, l)) (tCall sp_draw [] E (tCons ta (tCons tm tNil))) σ H (Drawn m) := ex_call (ea_cons hs (ea_cons hm ea_nil)) (spx_draw h0 h1)
def sp_start (K : PySem.W.Frag) : Sp := fun vs H Q _ => ∃ (a : Addr) (ns : List Int), vs = [.ref a] ∧ SqL K H a (ns.map V.int) ∧ ∀ st l H', H st = none → H l = none → Same H H' → Drw H' st l → Q (.ref st) H'
theorem ex_start {σ : L2.St} {H : Hp} {te : TE} {E : XK} {a : Addr} {ns : List Int} (h : Ev K none te σ H (.ref a)) (hS : SqL K H a (ns.map V.int)) : EvX K none (tCall (sp_start K) [] E (tCons te tNil)) σ H (fun v H2 => ∃ st l, v = .ref st ∧ Drw H2 st l) :=
  ex_call (ea_cons h ea_nil) fun H1 e Q q => ⟨a, ns, rfl, ((LA.of0 hS).mono e).q, fun st l H' _ _ sm d => q _ _ (lx_same sm) ⟨st, l, rfl, d⟩⟩
end
end Fw

namespace Fw
open PySem PySem.Spec PyProof.Rows L2
/-! ### a def that keeps a promise, however its object looks -/
def Ok (P : Program) (w : World) (K : PySem.W.Frag) (mg : Str → Option Value) (base : Heap) (CX : CXT) (k : Nat) (f : Addr) (ps : List Str) (sp : Sp) : Prop :=
  ∃ fd : FuncData, FnOk P w K mg base CX k f fd ps sp ∧ Binds K fd ps [] ∧ PySem.W.keepIn K (.ref f) = true ∧ ∃ oc od osl, K.lookup f = some ⟨oc, od, .func fd, osl⟩
abbrev FnIs (K : PySem.W.Frag) (x qual : Str) (st : Stmt) (f : Addr) : Prop := ∃ fd, FunD K x qual (defArgs st) (defBody st) (defScope st) [] [] f fd
section
variable {P : Program} {w : World} {K : PySem.W.Frag} {mg : Str → Option Value} {base : Heap}
theorem Ok.mono {CX : CXT} {j k : Nat} {f : Addr} {ps : List Str} {sp : Sp} (h : Ok P w K mg base CX j f ps sp) (l : j ≤ k) : Ok P w K mg base CX k f ps sp := by
  obtain ⟨fd, a, b, c⟩ := h
  exact ⟨fd, a.mono l, b, c⟩
theorem Ok.imp {CX : CXT} {k : Nat} {f : Addr} {ps : List Str} {sp sp' : Sp} (h : Ok P w K mg base CX k f ps sp) (i : ∀ vs H Q E, sp' vs H Q E → sp vs H Q E) : Ok P w K mg base CX k f ps sp' := by
  obtain ⟨fd, a, b, c⟩ := h
  exact ⟨fd, a.imp i, b, c⟩
/-- a def that lets nothing out: its body, read -/
theorem okD {x qual : Str} {st : Stmt} {f : Addr} {N ps : List Str} {k : Nat} {sp : Sp} (F : FnIs K x qual st f) (S : FnScope N ps (defScope st))
    (hb : ∀ (kV doc pm : Value) (an : Option Addr) (cdv ct : Value) (us : List Value), us.length = ps.length → bindArgs (PySem.W.fnOf x qual (defArgs st) (defBody st) (defScope st) .none kV doc pm an cdv ct) ⟨us, []⟩ = pure (ps.zip us))
    (len : ∀ vs H Q E, sp vs H Q E → vs.length = ps.length)
    (hbody : ∀ (cdv : Value) (A : Around) (outer : List Env) (s : Shared) (H : Hp) (vs : List V) (Q : VK) (E : XK), Room k (A.deeper (envOfC qual (defScope st) s.heap.objs.size f cdv)) → sp vs H Q E →
      ∃ t, PSs (cxOf CX0 P w K mg base N qual (defScope st) f cdv A outer s H E).nox (defBody st) t ∧ t { nx := fun _ H' => Q .non H', rt := Q } (start N vs) H) : Ok P w K mg base CX0 (k + 1) f ps sp := by
  obtain ⟨fd, F⟩ := F
  refine ⟨fd, F.ok S len fun cdv A outer s H vs Q E hr hsp => ?_, F.bindsN hb, F.kp, by obtain ⟨oc, od, _, _, _, _, _, _, _, osl, _, lk, _⟩ := F.ex; exact ⟨oc, od, osl, lk⟩⟩
  obtain ⟨t, h, q⟩ := hbody cdv A outer s H vs Q E hr hsp
  exact ⟨t, h.nox, q⟩
/-- the promise of the law's own def -/
theorem Ok.fn {CX : CXT} {k : Nat} {f : Addr} {ps : List Str} {sp : Sp} {x qual : Str} {params : Arguments} {body : List Stmt} {scope : Scope} {dvs : List V} {kws : List (Str × V)} {fd : FuncData} (h : Ok P w K mg base CX k f ps sp)
    (F : FunD K x qual params body scope dvs kws f fd) : FnOk P w K mg base CX k f fd ps sp := by
  obtain ⟨fd', a, _, _, oc, od, osl, lk⟩ := h
  obtain ⟨_, _, _, _, _, _, _, _, _, _, _, lk2, _⟩ := F.ex
  rw [lk] at lk2
  injection lk2 with e
  injection e with _ _ e _
  injection e with e
  subst e
  exact a
end
section
variable {X : Cx} {CX : CXT} {k : Nat} {f C : Addr} {ps : List Str} {sp : Sp} {E : XK} {x m : Str} {p pos apos : Pos} {e o : Expr} {es : List Expr} {t : TA} {ta : TE}
theorem pe_callO (F : Ok X.prog X.w X.K X.mg X.base CX k f ps sp) (hr : Room k X.A) (hg : Gl X x) (hm : X.mg x = some (.ref f)) (hx : Passes CX X E) (ha : PA X (e :: es) t)
    (hdb : (x == ("__debug__" : Str)) = false := by decide) (he : starEach (e :: es) X.env = (false, eval e X.env) :: starEach es X.env := by rfl) (hpl : (backTo pos (starEach es X.env)).any (·.1) = false := by rfl) :
    PE X (.Call (.Name x p) (e :: es) [] pos) (tCall sp [] E t) := by
  obtain ⟨fd, F, hb, hk, _⟩ := F
  exact pe_call F hr hg hm hk hb .nil hx ha hdb he hpl
end
/-! ### d.get(k), d a written dict of text keys -/
def tKGet (K : PySem.W.Frag) (w : World) (td ty : TE) : TE := fun σ H Q => td σ H fun x H1 => ∃ (a : Addr) (es : Array DictEntry) (n : Nat), x = .ref a ∧ KDict K w a es n ∧ ty σ H1 fun y H2 => ∃ (z : Str) (r : Option Value) (v : V), y = .str z ∧ PySem.W.nsIn K a z = some r ∧ RelV v (r.getD .none) ∧ Q v H2
section
variable {X : Cx} {o e : Expr} {apos cpos : Pos} {td ty : TE}
theorem pe_kget (K : PySem.W.Frag) (hK : X.K = K) {w : World} (hw : X.w = w) (ho : PE X o td) (he : PE X e ty) (m : M1 X o "get" apos e cpos) : PE X (.Call (.Attribute o "get" apos) [e] [] cpos) (tKGet K w td ty) := by
  subst hK
  subst hw
  refine ⟨fun pins s σ H Q I h => ?_⟩
  refine wpAny_Call_method m.base m.few m.line PySem.F.plainAttrs_dict PySem.F.slot_dict_get PySem.F.type_dict_get (thn (ho.run pins s σ H _ I h) fun u s1 ⟨x, H1, I1, rx, a, es, n, ex, D, q1⟩ => ?_)
  subst ex
  obtain rfl : u = Value.ref a := rx
  refine ⟨kd_type D I1, fun b eb => ?_, ?_⟩
  · cases eb
    exact ⟨_, I1.kIn _ _ D.at_, rfl⟩
  rw [m.trees]
  refine Calls.callWith_builtin rfl (Calls.evalArgs_plain (Calls.spliced_cons (thn (he.run pins s1 σ H1 _ I1 q1) fun iv s2 ⟨y, H2, I2, ry, z, r, v, ey, en, rv, q2⟩ => Calls.spliced_nil ?_)))
  subst ey
  obtain ⟨t, rfl⟩ := ry
  refine call_meetsIn PySem.F.slot_dict_get (kd_type D I2) PySem.F.entry_dict_get (PySem.F.args_dict_get_2 _ _) (meets_dict_get (strKind X.prog X.w) a (PySem.strKind_is X.prog X.w z t) D.low) ⟨_, PySem.W.mapOf_K (prog := X.prog) I2.kIn D.at_ D.lit, v, H2, I2.tok _, ?_, q2⟩
  rw [PySem.W.find_K D.at_ en]
  exact rv
end
/-! ### data: what a value stands for -/
mutual
inductive Rp (S : Dst) (H : Hp) : V → PyData → Prop
  | non : Rp S H .non .none
  | bl (b : Bool) : Rp S H (.bl b) (.bool b)
  | int (i : Int) : Rp S H (.int i) (.int i)
  | str (x : Str) : Rp S H (.str x) (.str x)
  | lst {a : Addr} {xs : List V} {ds : List PyData} : H a = some (.lst xs) → ¬ Sx S a → xs.length ≤ 100000 → RpAll S H xs ds → Rp S H (.ref a) (.list ds)
  | tup {a : Addr} {xs : List V} {ds : List PyData} : H a = some (.tup xs) → ¬ Sx S a → xs.length ≤ 100000 → RpAll S H xs ds → Rp S H (.ref a) (.tuple ds)
inductive RpAll (S : Dst) (H : Hp) : List V → List PyData → Prop
  | nil : RpAll S H [] []
  | cons {v : V} {vs : List V} {d : PyData} {ds : List PyData} : Rp S H v d → RpAll S H vs ds → RpAll S H (v :: vs) (d :: ds)
end
section
variable {K : PySem.W.Frag} {S : Dst} {H H' : Hp}
mutual
theorem Rp.mono (e : Lx S H H') : ∀ (d : PyData) (v : V), Rp S H v d → Rp S H' v d
  | .none, _, h => by cases h; exact .non
  | .bool b, _, h => by cases h; exact .bl b
  | .int b, _, h => by cases h; exact .int b
  | .str b, _, h => by cases h; exact .str b
  | .list ds, _, h => by
    cases h with
    | lst h1 h2 h3 h4 => exact .lst (e.1 _ _ h2 h1) h2 h3 (RpAll.mono e ds _ h4)
  | .tuple ds, _, h => by
    cases h with
    | tup h1 h2 h3 h4 => exact .tup (e.1 _ _ h2 h1) h2 h3 (RpAll.mono e ds _ h4)
  | .dict kvs, _, h => by cases h
theorem RpAll.mono (e : Lx S H H') : ∀ (ds : List PyData) (vs : List V), RpAll S H vs ds → RpAll S H' vs ds
  | [], _, h => by cases h; exact .nil
  | d :: ds, _, h => by
    cases h with
    | cons h1 h2 => exact .cons (Rp.mono e d _ h1) (RpAll.mono e ds _ h2)
end
mutual
theorem Rp.to0 : ∀ (d : PyData) (v : V), Rp S H v d → Rp none H v d
  | .none, _, h => by cases h; exact .non
  | .bool b, _, h => by cases h; exact .bl b
  | .int b, _, h => by cases h; exact .int b
  | .str b, _, h => by cases h; exact .str b
  | .list ds, _, h => by
    cases h with
    | lst h1 h2 h3 h4 => exact .lst h1 sx_none h3 (RpAll.to0 ds _ h4)
  | .tuple ds, _, h => by
    cases h with
    | tup h1 h2 h3 h4 => exact .tup h1 sx_none h3 (RpAll.to0 ds _ h4)
  | .dict kvs, _, h => by cases h
theorem RpAll.to0 : ∀ (ds : List PyData) (vs : List V), RpAll S H vs ds → RpAll none H vs ds
  | [], _, h => by cases h; exact .nil
  | d :: ds, _, h => by
    cases h with
    | cons h1 h2 => exact .cons (Rp.to0 d _ h1) (RpAll.to0 ds _ h2)
end
theorem Rp.m {d : PyData} {v : V} (h : Rp S H v d) (e : Lx S H H') : Rp S H' v d := Rp.mono e d v h
theorem Rp.z {d : PyData} {v : V} (h : Rp S H v d) : Rp none H v d := Rp.to0 d v h
theorem RpAll.m {ds : List PyData} {vs : List V} (h : RpAll S H vs ds) (e : Lx S H H') : RpAll S H' vs ds := RpAll.mono e ds vs h
theorem RpAll.length : ∀ {vs : List V} {ds : List PyData}, RpAll S H vs ds → vs.length = ds.length
  | _, _, .nil => rfl
  | _, _, .cons _ h => congrArg Nat.succ (RpAll.length h)
theorem RpAll.get : ∀ {vs : List V} {ds : List PyData}, RpAll S H vs ds → ∀ {i : Nat} {d : PyData}, ds[i]? = some d → ∃ v, vs[i]? = some v ∧ Rp S H v d
  | _, _, .nil, i, d, h => by simp at h
  | _, _, .cons a _, 0, d, h => by
    have e := Option.some.inj h
    subst e
    exact ⟨_, rfl, a⟩
  | _, _, .cons _ r, i + 1, d, h => RpAll.get r (i := i) h
theorem RpAll.of {vs : List V} {ds : List PyData} (hl : vs.length = ds.length) (h : ∀ (i : Nat) v d, vs[i]? = some v → ds[i]? = some d → Rp S H v d) : RpAll S H vs ds := by
  induction vs generalizing ds with
  | nil => cases ds with
    | nil => exact .nil
    | cons d ds => exact nomatch hl
  | cons v vs ih => cases ds with
    | nil => exact nomatch hl
    | cons d ds => exact .cons (h 0 v d rfl rfl) (ih (Nat.succ.inj hl) fun i v' d' a b => h (i + 1) v' d' a b)
theorem RpAll.map {α : Type} {f : α → V} {g : α → PyData} {xs : List α} (h : ∀ x ∈ xs, Rp S H (f x) (g x)) : RpAll S H (xs.map f) (xs.map g) := by
  induction xs with
  | nil => exact .nil
  | cons x xs ih => exact .cons (h x (by simp)) (ih fun y hy => h y (by simp [hy]))
/-- the name of a datum's type -/
def tyD : PyData → String
  | .none => "NoneType" | .bool _ => "bool" | .int _ => "int" | .str _ => "str" | .list _ => "list" | .tuple _ => "tuple" | .dict _ => "dict"
theorem Rp.ty {d : PyData} {v : V} (h : Rp S H v d) : TyX K H v (.type (tyD d)) := by
  cases h with
  | non => exact .base .non
  | bl b => exact .base (.bl b)
  | int b => exact .base (.int b)
  | str b => exact .base (.str b)
  | lst h1 h2 h3 h4 => exact .base (.lst h1)
  | tup h1 h2 h3 h4 => exact .base (.tup h1)
theorem kD {d : PyData} (t : String) {n : String} {b : Bool} (h : tyD d = t) (k : kitB t n = some b) : kitB (tyD d) n = some b := h ▸ k
def rIsiA (K : PySem.W.Frag) : List V → Hp → VK → Prop := rIsi K
theorem rc_isi {d : PyData} {v : V} {n : String} {b : Bool} (h : Rp S H v d) (hk : kitB (tyD d) n = some b) : RC K S (rIsi K) [v, .ty n] H (.bl b) := fun H1 e _ q =>
  ⟨v, .ty n, _, _, b, rfl, .ty n, (h.m e).ty, kit_ty hk, q H1 e.refl⟩
theorem ev_isi {d : PyData} {v : V} {n : String} {b : Bool} {σ : L2.St} {te : TE} (he : Ev K S te σ H v) (h : Rp S H v d) (hk : kitB (tyD d) n = some b) : Ev K S (tCB (rIsi K) (tCons te (tCons (tC (.ty n)) tNil))) σ H (.bl b) :=
  ev_cb (ea_cons he (ea_cons ev_c ea_nil)) (rc_isi h hk)
theorem depth_mem : ∀ {ds : List PyData} {i : Nat} {d : PyData}, ds[i]? = some d → d.depth ≤ PyData.depthAll ds
  | [], i, d, h => by simp at h
  | x :: xs, 0, d, h => by
    have e := Option.some.inj h
    subst e
    rw [PyData.depthAll]
    exact Nat.le_max_left _ _
  | x :: xs, i + 1, d, h => by
    have q := depth_mem (ds := xs) (i := i) h
    rw [PyData.depthAll]
    exact Nat.le_trans q (Nat.le_max_right _ _)
/-! _law_is_number, _law_same of what is the same -/
def isNumD : PyData → Bool
  | .int _ => true
  | _ => false
def sp_isnum : Sp := fun vs H Q _ => ∃ (x : V) (d : PyData), vs = [x] ∧ Rp none H x d ∧ ∀ H', Lx none H H' → Q (.bl (isNumD d)) H'
theorem ev_isnum {te : TE} {σ : L2.St} {x : V} {d : PyData} {E : XK} (h : Ev K S te σ H x) (r : Rp S H x d) : Ev K S (tCall sp_isnum [] E (tCons te tNil)) σ H (.bl (isNumD d)) :=
  (ex_call (P := fun v _ => v = .bl (isNumD d)) (ea_cons h ea_nil) fun H1 e Q q => ⟨x, d, rfl, (r.m e).z, fun H' e2 => q _ _ (e.refl.of0 e2) rfl⟩).ev fun _ _ _ z => z
def sp_same (n : Nat) : Sp := fun vs H Q _ => ∃ (x y : V) (d : PyData), vs = [x, y] ∧ d.depth < n ∧ Rp none H x d ∧ Rp none H y d ∧ ∀ H', Lx none H H' → Q (.bl true) H'
theorem ev_same {ta tb : TE} {σ : L2.St} {x y : V} {d : PyData} {E : XK} {n : Nat} (ha : Ev K S ta σ H x) (hb : Ev K S tb σ H y) (rx : Rp S H x d) (ry : Rp S H y d) (hd : d.depth < n) : Ev K S (tCall (sp_same n) [] E (tCons ta (tCons tb tNil))) σ H (.bl true) :=
  (ex_call (P := fun v _ => v = .bl true) (ea_cons ha (ea_cons hb ea_nil)) fun H1 e Q q => ⟨x, y, d, rfl, hd, (rx.m e).z, (ry.m e).z, fun H' e2 => q _ _ (e.refl.of0 e2) rfl⟩).ev fun _ _ _ z => z
theorem spx_same {x y : V} {d : PyData} {E : XK} {n : Nat} (rx : Rp S H x d) (ry : Rp S H y d) (hd : d.depth < n) : SpX K S (sp_same n) [x, y] H E (fun v _ => v = .bl true) := fun H1 e Q q => ⟨x, y, d, rfl, hd, (rx.m e).z, (ry.m e).z, fun H' e2 => q _ _ (e.refl.of0 e2) rfl⟩
theorem ok_zero {P : Program} {w : World} {mg : Str → Option Value} {base : Heap} {CX : CXT} {x qual : Str} {st : Stmt} {f : Addr} {ps : List Str} {sp : Sp} (F : FnIs K x qual st f)
    (hb : ∀ (kV doc pm : Value) (an : Option Addr) (cdv ct : Value) (us : List Value), us.length = ps.length → bindArgs (PySem.W.fnOf x qual (defArgs st) (defBody st) (defScope st) .none kV doc pm an cdv ct) ⟨us, []⟩ = pure (ps.zip us)) (h : ∀ vs H Q E, ¬ sp vs H Q E) : Ok P w K mg base CX 0 f ps sp := by
  obtain ⟨fd, F⟩ := F
  exact ⟨fd, ⟨fun _ _ _ _ z => (h _ _ _ _ z).elim, fun _ _ _ _ _ _ _ _ _ _ _ _ _ z => (h _ _ _ _ z).elim⟩, F.bindsN hb, F.kp, by obtain ⟨oc, od, _, _, _, _, _, _, _, osl, _, lk, _⟩ := F.ex; exact ⟨oc, od, osl, lk⟩⟩
/-- an item of a list or a tuple -/
theorem rv_ix {p : Addr} {xs : List V} {i : Int} {v : V} (h : SqL K H p xs ∨ SqT K H p xs) (n : ¬ Sx S p) (ha : atI xs i = some v) : RV K S (rIx K) (.ref p) (.int i) H v := fun H1 e _ q => by
  rcases h with h | h
  · exact .inl ⟨p, xs, i, v, rfl, rfl, ((⟨h, n⟩ : LA K S H p xs).mono e).q, ha, q H1 e.refl⟩
  · exact .inr (.inl ⟨p, xs, i, v, rfl, rfl, ((⟨h, n⟩ : UA K S H p xs).mono e).q, ha, q H1 e.refl⟩)
theorem rc_lenLU {p : Addr} {xs : List V} (h : SqL K H p xs ∨ SqT K H p xs) (n : ¬ Sx S p) : RC K S (rLn K) [.ref p] H (.int (xs.length : Int)) := fun H1 e _ q => by
  rcases h with h | h
  · exact ⟨p, xs, rfl, .inl ((⟨h, n⟩ : LA K S H p xs).mono e).q, q H1 e.refl⟩
  · exact ⟨p, xs, rfl, .inr ((⟨h, n⟩ : UA K S H p xs).mono e).q, q H1 e.refl⟩
end
end Fw

namespace Fw
open PySem PySem.Spec PyProof.Rows L2
/-! ### comparisons of instances of an own class -/
section
open PySem.W
variable {prog : Program} {w : World} {M : Model} {A : Around} {E : Value → Shared → Prop} {s : Shared} {K : PySem.W.Frag} {x y C f : Addr} {ox oy : Obj} {od od' : Option Obj} {args rest : List Value} {name : Str} {id owner n : String}
theorem check_B {Q : Unit → Shared → Prop} (hk : builtinKind id = some .slot) (hs : splitId id = some (owner, n)) (ha : argsOk id ⟨.ref x :: rest, []⟩) (X : K.In s.heap) (I : InstAt s.heap x ox C od) (hm : mroIn K C (.type owner) = some true) (hq : Q () s) :
    wpAny M A (checkBuiltinCall id ⟨.ref x :: rest, []⟩) Q E s := by
  obtain ⟨hh, g, dr, t, os⟩ := s
  have L0 := I.type (M := M)
  have L1 := looks_mroIn (M := M) X hm
  simp only [checkBuiltinCall, hk, hs]
  refine wpAny_bind ?_
  unfold isInstance
  repeat lk
  cases hsig : Manifest.signature? id with
  | none => exact wpAny_pure hq
  | some sig =>
    simp only [argsOk, hsig] at ha
    have h2 : Bind.checkArgs id sig ⟨.ref x :: rest, []⟩ = pure () := ha
    show wpAny M A (Bind.checkArgs id sig ⟨.ref x :: rest, []⟩) Q E _
    rw [h2]; exact wpAny_pure hq
theorem ifBound_B {Q : Option Value → Shared → Prop} (X : K.In s.heap) (I : InstAt s.heap x ox C od) (hs : findIn K (.ref C) name = some (some (.builtin id))) (hb : bindSpecial (.builtin id) (.ref x) = pure (.builtin id, [.ref x]))
    (h : wpAny M A (call (.builtin id) (.ref x :: args)) (fun v => Q (some v)) E s) : wpAny M A (callSpecialIfBound? (.ref x) name args) Q E s := by
  simp only [callSpecialIfBound?, bindSpecialIfBound?]
  refine wpAny_holding (wpAny_bind (wpAny_bind (wpAny_bind (I.type.here ((looks_findIn X hs).here ?_)))))
  simp only [hb]
  refine wpAny_bind (wpAny_askSetting (wpAny_ite ?_))
  have fin : wpAny M A (call (.builtin id) ([.ref x] ++ args) >>= fun v => pure (some v)) Q E s := wpAny_bind (wpAny_mono h (fun v s' h' => wpAny_pure h') fun _ _ h' => h')
  split
  · exact wpAny_bind (wpAny_pure (wpAny_pure (by exact fin)))
  · exact wpAny_tryCatch (wpAny_bind (wpAny_pure (wpAny_pure (by exact fin))))

/-- x op y, no own def of x's class for op; the mirrored def of y's class answers -/
theorem declined_B {Q : Value → Shared → Prop} (hp : plainId id = true) {B : Builtin} (he : entryFor table id = some B) (hk : builtinKind id = some .slot) (hs : splitId id = some (owner, n)) (ha : argsOk id ⟨[.ref x, .ref y], []⟩)
    (X : K.In s.heap) (I : InstAt s.heap x ox C od) (hm : mroIn K C (.type owner) = some true)
    (h : wpAny (model prog w) A.in1 (B ⟨[.ref x, .ref y], []⟩) (fun fin s' => match fin with | .done f => (match f with | .ret v => Q v s' | _ => False) | .again _ => False) E s) : wpAny (model prog w) A (call (.builtin id) [.ref x, .ref y]) Q E s := by
  refine wpAny_call (codeAny_call_builtin hp he (check_B hk hs ha X I hm (wpAny_mono h (fun fin s' hq => ?_) fun _ _ e => e)))
  cases fin with
  | done f =>
    cases f with
    | ret v => exact hq
    | next => exact hq.elim
    | brk => exact hq.elim
    | cont => exact hq.elim
  | again c => exact hq.elim
theorem not_B {Q : Value → Shared → Prop} (hid : id = "object.__gt__" ∨ id = "object.__ge__") (X : K.In s.heap) (I : InstAt s.heap x ox C od) (hm : mroIn K C (.type "object") = some true) (h : Q .notImplemented s) :
    wpAny (model prog w) A (call (.builtin id) [.ref x, .ref y]) Q E s := by
  rcases hid with rfl | rfl
  · refine declined_B (owner := "object") (n := "__gt__") (by decide +kernel) PySem.F.entry_object_gt (by decide +kernel) (by decide +kernel) (PySem.F.args_object_gt_2 _ _) X I hm ?_
    unfold Builtin.«object.__gt__»
    repeat (first | wp_step | exact h)
  · refine declined_B (owner := "object") (n := "__ge__") (by decide +kernel) PySem.F.entry_object_ge (by decide +kernel) (by decide +kernel) (PySem.F.args_object_ge_2 _ _) X I hm ?_
    unfold Builtin.«object.__ge__»
    repeat (first | wp_step | exact h)

theorem mirror_K {op : CmpOp} {Q : Value → Shared → Prop} (hu : A.units < cLine) (hid : id = "object.__gt__" ∨ id = "object.__ge__") (hbs : bindSpecial (.builtin id) (.ref x) = pure (.builtin id, [.ref x])) (X : K.In s.heap) (I : InstAt s.heap x ox C od) (J : InstAt s.heap y oy C od')
    (hm : mroIn K C (.type "object") = some true) (hb : findIn K (.ref C) (cmpInfo op).2.1 = some (some (.builtin id))) (hs : findIn K (.ref C) (cmpInfo op).2.2 = some (some (.ref f))) (hf : isFn K (.ref f) = true)
    (h : wpAny (model prog w) A (call (.ref f) [.ref y, .ref x]) (PySem.W.CmpBack Q) E s) : wpAny (model prog w) A (richCompare op (.ref x) (.ref y)) Q E s := by
  have none_ : ∀ {P : Option Value → Shared → Prop}, P none s → wpAny (model prog w) A (tryCompare (.ref x) (cmpInfo op).2.1 (.ref y)) P E s := fun p => by
    unfold tryCompare
    exact wpAny_bind (ifBound_B X I hb hbs (not_B hid X I hm (wpAny_pure p)))
  have one : wpAny (model prog w) A (tryCompare (.ref y) (cmpInfo op).2.2 (.ref x)) (fun r s' => ∃ v, r = some v ∧ Q v s') E s := by
    unfold tryCompare
    refine wpAny_bind (ifBound_K X J hs hf (wpAny_mono h (fun v s' hv => ?_) fun _ _ e => e))
    cases v <;> first | exact hv.elim | exact wpAny_pure ⟨_, rfl, hv⟩
  unfold richCompare
  simp only [oneThing_ref]
  refine wpAny_holding (wpAny_bind (wpAny_cRoomFor hu ?_))
  refine wpAny_bind (I.type.here (wpAny_bind (J.type.here ?_)))
  rw [show (Value.ref C != Value.ref C) = false from by simp]
  simp only [Bool.false_eq_true, if_false]
  refine wpAny_bind (wpAny_pure ?_)
  simp only [Bool.false_eq_true, if_false]
  refine wpAny_bind (none_ ?_)
  dsimp only
  refine wpAny_bind (wpAny_mono one (fun r s' z => ?_) fun _ _ e => e)
  obtain ⟨v, rfl, hq⟩ := z
  exact wpAny_pure hq
theorem ne_K {Q : Value → Shared → Prop} (hu : A.units + 1 < cLine) (X : K.In s.heap) (I : InstAt s.heap x ox C od) (J : InstAt s.heap y oy C od')
    (hm : mroIn K C (.type "object") = some true) (hb : findIn K (.ref C) "__ne__" = some (some (.builtin "object.__ne__"))) (hs : findIn K (.ref C) "__eq__" = some (some (.ref f))) (hf : isFn K (.ref f) = true)
    (h : wpAny (model prog w) A.in1 (call (.ref f) [.ref x, .ref y]) (fun v s' => ∃ b, v = .bool b ∧ Q (.bool (!b)) s') E s) : wpAny (model prog w) A (richCompare .NotEq (.ref x) (.ref y)) Q E s := by
  have one : wpAny (model prog w) A (tryCompare (.ref x) "__ne__" (.ref y)) (fun r s' => ∃ b, r = some (.bool (!b)) ∧ Q (.bool (!b)) s') E s := by
    unfold tryCompare
    refine wpAny_bind (ifBound_B X I hb (PySem.F.cmp_object.ne.bind _) (wpAny_call (codeAny_call_builtin PySem.F.cmp_object.ne.plain PySem.F.cmpEntry_ne (check_B PySem.F.cmpKind_ne PySem.F.cmpSplit_ne (PySem.F.cmpArgs_ne _ _) X I hm ?_))))
    have hu' : A.in1.units < cLine := hu
    unfold Builtin.«object.__ne__»
    repeat (first
      | with_reducible refine wpAny_cRoomFor hu' ?_
      | (refine wpAny_bind (m := callSpecialIfBound? (.ref x) (Str.ofString "__eq__") [.ref y]) (ifBound_K X I hs hf (wpAny_mono h (fun r s' hr => by
          obtain ⟨b, rfl, hq⟩ := hr
          repeat (first | exact ⟨b, rfl, hq⟩ | exact wpAny_pure (wpAny_pure ⟨b, rfl, hq⟩) | exact wpAny_pure ⟨b, rfl, hq⟩ | exact wpAny_truthy_bool ⟨b, rfl, hq⟩ | (refine wpAny_bind (m := truthy (.bool _)) (wpAny_truthy_bool ?_)) | wp_step)) fun _ _ e => e)))
      | wp_step)
  unfold richCompare
  simp only [oneThing_ref]
  refine wpAny_holding (wpAny_bind (wpAny_cRoomFor (Nat.lt_of_succ_lt hu) ?_))
  rw [cmpInfo_NotEq]
  dsimp only
  refine wpAny_bind (I.type.here (wpAny_bind (J.type.here ?_)))
  rw [show (Value.ref C != Value.ref C) = false from by simp]
  simp only [Bool.false_eq_true, if_false]
  refine wpAny_bind (wpAny_pure ?_)
  simp only [Bool.false_eq_true, if_false]
  refine wpAny_bind (wpAny_mono one (fun r s' z => ?_) fun _ _ e => e)
  obtain ⟨v, rfl, hq⟩ := z
  exact wpAny_pure hq
end
end Fw

namespace Fw
open PySem PySem.Spec PyProof.Rows L2
section
variable {P : Program} {w : World} {K : PySem.W.Frag} {mg : Str → Option Value} {base : Heap}
theorem Ok.r {CX : CXT} {k : Nat} {f : Addr} {ps : List Str} {sp : Sp} (h : Ok P w K mg base CX k f ps sp) : FnR P w K mg base CX k f sp := by
  obtain ⟨fd, F, hb, _⟩ := h
  exact (F.raw hb .nil).imp fun vs H Q E q => by rw [List.append_nil]; exact q
theorem Ok.keep {CX : CXT} {k : Nat} {f : Addr} {ps : List Str} {sp : Sp} (h : Ok P w K mg base CX k f ps sp) : PySem.W.keepIn K (.ref f) = true := by
  obtain ⟨fd, F, hb, hk, _⟩ := h
  exact hk
end
/-! ### an instance -/
structure IA (S : Dst) (H : Hp) (a C : Addr) (fs : List (Str × V)) : Prop where
  q : ∃ dx, H a = some (.ins C dx fs)
  n : ¬ Sx S a
theorem IA.mono {S : Dst} {H H1 : Hp} {a C : Addr} {fs : List (Str × V)} (h : IA S H a C fs) (e : Lx S H H1) : IA S H1 a C fs := by
  obtain ⟨⟨dx, q⟩, n⟩ := h
  exact ⟨⟨dx, e.1 _ _ n q⟩, n⟩
theorem Lx.nsI {S : Dst} {H H1 : Hp} {a C dx : Addr} {fs : List (Str × V)} (e : Lx S H H1) (h : H1 a = some (.ins C dx fs)) : ¬ Sx S a := fun ⟨q, hq, hp⟩ => by
  obtain ⟨_, _, _, _, _, h1, _, h2⟩ := e.2 q hq
  rcases hp with rfl | rfl
  · rw [h] at h1; cases h1
  · rw [h] at h2; cases h2
theorem IA.of {S : Dst} {H H1 : Hp} {a C : Addr} {fs : List (Str × V)} (e : Lx S H H1) (h : IA none H1 a C fs) : IA S H1 a C fs := by
  obtain ⟨⟨dx, q⟩, n⟩ := h
  exact ⟨⟨dx, q⟩, e.nsI q⟩
theorem IA.to0 {S : Dst} {H : Hp} {a C : Addr} {fs : List (Str × V)} (h : IA S H a C fs) : IA none H a C fs := ⟨h.q, sx_none⟩
abbrev NewI (S : Dst) (H : Hp) (C : Addr) (fs : List (Str × V)) : V → Hp → Prop := fun v H2 => ∃ p, v = .ref p ∧ H p = none ∧ IA S H2 p C fs
section
variable {K : PySem.W.Frag} {S : Dst} {σ : L2.St} {H H' : Hp} {ta tb tc te tv : TE} {tas : TA} {t u : TT} {x y z v : V} {P P' : V → Hp → Prop} {b c : Bool} {vs : List V} {a C D' dx : Addr} {fs fs' : List (Str × V)} {f : Str} {D : Ends} {tz : TS}
theorem ev_fld (h : Ev K S ta σ H (.ref a)) (i : IA S H a C fs) (c : Cls K C) (n : NoAttr K C f) (l : fs.lookup f = some v) : Ev K S (tFld K ta f) σ H v := fun H1 e Q q => h H1 e _ fun H2 e2 => by
  obtain ⟨⟨dx, q2⟩, _⟩ := i.mono (e.trans e2)
  exact ⟨a, C, dx, fs, v, rfl, q2, c, n, l, q H2 e2⟩
theorem ev_con {u : Value} (h : Ev K S ta σ H (.ref a)) (i : IA S H a C fs) (c : Cls K C) (k : Con K C f v u) (l : fs.lookup f = none) : Ev K S (tCon K ta f) σ H v := fun H1 e Q q => h H1 e _ fun H2 e2 => by
  obtain ⟨⟨dx, q2⟩, _⟩ := i.mono (e.trans e2)
  exact ⟨a, C, dx, fs, v, u, rfl, q2, c, k, l, q H2 e2⟩
theorem s_fld (hi : H a = some (.ins C dx fs)) (ns : ¬ Sx S a) (c : Cls K C) (n : NoAttr K C f) (hz : fs.length < 1000) (h : Ev K S tv σ H v) (ho : Ev K S ta σ H (.ref a)) (ep : putF f v fs = fs') (k : St K S tz D σ (upd H a (.ins C dx fs'))) :
    St K S (tSeq (sFld K ta tv f) tz) D σ H := fun H1 e => h H1 e _ fun H2 e2 => ho H2 (e.trans e2) _ fun H3 e3 => by
  have e4 := (e.trans e2).trans e3
  subst ep
  exact ⟨a, C, dx, fs, rfl, e4.1 _ _ ns hi, c, n, hz, k _ (e4.upd ns)⟩
theorem s_fld1 (hi : H a = some (.ins C dx fs)) (ns : ¬ Sx S a) (c : Cls K C) (n : NoAttr K C f) (hz : fs.length < 1000) (h : Ev K S tv σ H v) (ho : Ev K S ta σ H (.ref a)) (ep : putF f v fs = fs') (k : ∀ H1, Lx S (upd H a (.ins C dx fs')) H1 → D.nx σ H1) :
    St K S (sFld K ta tv f) D σ H := fun H1 e => h H1 e _ fun H2 e2 => ho H2 (e.trans e2) _ fun H3 e3 => by
  have e4 := (e.trans e2).trans e3
  subst ep
  exact ⟨a, C, dx, fs, rfl, e4.1 _ _ ns hi, c, n, hz, k _ (e4.upd ns)⟩
theorem s_fldX (hi : H a = some (.ins C dx fs)) (ns : ¬ Sx S a) (c : Cls K C) (n : NoAttr K C f) (hz : fs.length < 1000) (h : EvX K S tv σ H P) (ho : Ev K S ta σ H (.ref a)) (k : ∀ v H1, Lx S H H1 → P v H1 → St K S tz D σ (upd H1 a (.ins C dx (putF f v fs)))) :
    St K S (tSeq (sFld K ta tv f) tz) D σ H := fun H1 e => h H1 e _ fun v H2 e2 p => ho H2 (e.trans e2) _ fun H3 e3 => by
  have e4 := (e.trans e2).trans e3
  exact ⟨a, C, dx, fs, rfl, e4.1 _ _ ns hi, c, n, hz, k v H2 (e.trans e2) p _ (((e.trans e2).refl.trans e3).upd ns)⟩
theorem s_fldX1 (hi : H a = some (.ins C dx fs)) (ns : ¬ Sx S a) (c : Cls K C) (n : NoAttr K C f) (hz : fs.length < 1000) (h : EvX K S tv σ H P) (ho : Ev K S ta σ H (.ref a)) (k : ∀ v H1, Lx S H H1 → P v H1 → ∀ H2, Lx S (upd H1 a (.ins C dx (putF f v fs))) H2 → D.nx σ H2) :
    St K S (sFld K ta tv f) D σ H := fun H1 e => h H1 e _ fun v H2 e2 p => ho H2 (e.trans e2) _ fun H3 e3 => by
  have e4 := (e.trans e2).trans e3
  exact ⟨a, C, dx, fs, rfl, e4.1 _ _ ns hi, c, n, hz, k v H2 (e.trans e2) p _ (((e.trans e2).refl.trans e3).upd ns)⟩
/-- where an instance is made -/
abbrev Raw (H : Hp) (x dx C : Addr) : Hp := upd (upd H dx (.own x)) x (.ins C dx [])
/-- what an __init__ promises that only writes plain fields -/
def sp_init (C : Addr) (A : List V → List (Str × V) → Hp → Prop) : Sp := fun ws H Q _ => ∃ x dx vs fs, ws = .ref x :: vs ∧ H x = some (.ins C dx []) ∧ H dx = some (.own x) ∧ dx ≠ x ∧ A vs fs H ∧ ∀ H', Lx none (upd H x (.ins C dx fs)) H' → Q .non H'
theorem Lx.raw {H H1 : Hp} {x dx C : Addr} (e : Lx S H H1) (h1 : H1 x = none) (h2 : H1 dx = none) (ne : dx ≠ x) : Lx S H1 (Raw H1 x dx C) := by
  have e1 := e.new h2 (o := .own x)
  exact e1.trans ((e.trans e1).new (by rw [upd_ne (Ne.symm ne)]; exact h1))
theorem ex_make {E : XK} {A : List V → List (Str × V) → Hp → Prop} (h : EvA K S tas σ H vs) (k : ∀ H1, Lx S H H1 → A vs fs H1) (mk : ∀ x dx, ¬ Sx S dx → ¬ Sx S x → ∀ H1, Lx S H H1 → A vs fs H1 → A vs fs (Raw H1 x dx C)) :
    EvX K S (StX.tMakeR C (sp_init C A) E tas) σ H (NewI S H C fs) := fun H1 e Q q => h H1 e _ fun H2 e2 x dx h1 h2 ne => by
  have w2 := e.trans e2
  have e3 : Lx S H2 (Raw H2 x dx C) := w2.raw h1 h2 ne
  have nx : ¬ Sx S x := w2.ns h1
  refine ⟨x, dx, vs, fs, rfl, upd_same, by show upd _ _ _ _ = _; rw [upd_ne ne, upd_same], ne, mk x dx (w2.ns h2) nx H2 w2 (k H2 w2), fun H3 e4 => ⟨rfl, q _ _ ?_ ⟨x, rfl, w2.fresh h1, ⟨dx, e4.1 _ _ sx_none upd_same⟩, nx⟩⟩⟩
  have e5 : Lx S H2 (upd (Raw H2 x dx C) x (.ins C dx fs)) := e3.put nx fun u z => by rw [h1] at z; cases z
  exact (e2.trans e5).trans ((w2.trans e5).of0 e4)
/-- the fields do not hang on the heap -/
theorem ex_make0 {E : XK} {A : List V → List (Str × V) → Prop} (h : EvA K S tas σ H vs) (k : A vs fs) : EvX K S (StX.tMakeR C (sp_init C fun vs fs _ => A vs fs) E tas) σ H (NewI S H C fs) :=
  ex_make h (fun _ _ => k) (fun _ _ _ _ _ _ q => q)
/-- o.m(..) -/
theorem ex_meth {m : Str} {sp : Sp} {E : XK} (ho : Ev K S ta σ H (.ref a)) (i : IA S H a C fs) (l : fs.lookup m = none) (h : EvA K S tas σ H vs) (k : SpX K S sp (.ref a :: vs) H E P) : EvX K S (tMethR C m sp E ta tas) σ H P := fun H1 e Q q => ho H1 e _ fun H2 e2 => by
  obtain ⟨⟨dx, q2⟩, _⟩ := i.mono (e.trans e2)
  exact ⟨a, dx, fs, rfl, q2, l, h H2 (e.trans e2) _ fun H3 e3 => k H3 ((e.trans e2).trans e3) _ fun z H4 e4 p => q z H4 ((e2.trans e3).trans e4) p⟩
theorem ex_methX {m : Str} {sp : Sp} {E : XK} {PA : List V → Hp → Prop} (ho : Ev K S ta σ H (.ref a)) (i : IA S H a C fs) (l : fs.lookup m = none) (h : EvAX K S tas σ H PA) (k : ∀ vs H1, Lx S H H1 → PA vs H1 → SpX K S sp (.ref a :: vs) H1 E P) : EvX K S (tMethR C m sp E ta tas) σ H P := fun H1 e Q q => ho H1 e _ fun H2 e2 => by
  obtain ⟨⟨dx, q2⟩, _⟩ := i.mono (e.trans e2)
  exact ⟨a, dx, fs, rfl, q2, l, h H2 (e.trans e2) _ fun vs H3 e3 pa => k vs H3 ((e.trans e2).trans e3) pa H3 ((e.trans e2).trans e3).refl _ fun z H4 e4 p => q z H4 ((e2.trans e3).trans e4) p⟩
/-- e.f, a property -/
def tPropI (C : Addr) (sp : Sp) (E : XK) (ta : TE) : TE := fun σ H Q => ta σ H fun x H1 => ∃ a dx fs, x = .ref a ∧ H1 a = some (.ins C dx fs) ∧ sp [.ref a] H1 Q E
theorem ex_prop {sp : Sp} {E : XK} (ho : Ev K S ta σ H (.ref a)) (i : IA S H a C fs) (k : SpX K S sp [.ref a] H E P) : EvX K S (tPropI C sp E ta) σ H P := fun H1 e Q q => ho H1 e _ fun H2 e2 => by
  obtain ⟨⟨dx, q2⟩, _⟩ := i.mono (e.trans e2)
  exact ⟨a, dx, fs, rfl, q2, k H2 (e.trans e2) _ fun z H4 e4 p => q z H4 (e2.trans e4) p⟩
/-- an operator of two instances, one instance -/
def rOI (C : Addr) (sp : Sp) (E : XK) : R2 := fun x y H Q => ∃ a b, x = .ref a ∧ y = .ref b ∧ (∃ dx fs, H a = some (.ins C dx fs)) ∧ (∃ dx fs, H b = some (.ins C dx fs)) ∧ sp [.ref a, .ref b] H Q E
def rOIm (C : Addr) (sp : Sp) (E : XK) : R2 := fun x y H Q => ∃ a b, x = .ref a ∧ y = .ref b ∧ (∃ dx fs, H a = some (.ins C dx fs)) ∧ (∃ dx fs, H b = some (.ins C dx fs)) ∧ sp [.ref b, .ref a] H Q E
def rOIn (C : Addr) (sp : Sp) (E : XK) : R2 := fun x y H Q => ∃ a b, x = .ref a ∧ y = .ref b ∧ (∃ dx fs, H a = some (.ins C dx fs)) ∧ (∃ dx fs, H b = some (.ins C dx fs)) ∧ sp [.ref a, .ref b] H (fun z H' => ∃ r, z = .bl r ∧ Q (.bl (!r)) H') E
def rOU (C : Addr) (sp : Sp) (E : XK) : V → Hp → VK → Prop := fun x H Q => ∃ a, x = .ref a ∧ (∃ dx fs, H a = some (.ins C dx fs)) ∧ sp [.ref a] H Q E
variable {p : Addr} {gs : List (Str × V)}
theorem rvx_own {sp : Sp} {E : XK} (i : IA S H a C fs) (j : IA S H p C gs) (k : SpX K S sp [.ref a, .ref p] H E P) : RVX K S (rOI C sp E) (.ref a) (.ref p) H P := fun H1 e Q q => by
  obtain ⟨⟨dx, q1⟩, _⟩ := i.mono e
  obtain ⟨⟨dy, q2⟩, _⟩ := j.mono e
  exact ⟨a, p, rfl, rfl, ⟨_, _, q1⟩, ⟨_, _, q2⟩, k H1 e Q q⟩
theorem rvx_ownm {sp : Sp} {E : XK} (i : IA S H a C fs) (j : IA S H p C gs) (k : SpX K S sp [.ref p, .ref a] H E P) : RVX K S (rOIm C sp E) (.ref a) (.ref p) H P := fun H1 e Q q => by
  obtain ⟨⟨dx, q1⟩, _⟩ := i.mono e
  obtain ⟨⟨dy, q2⟩, _⟩ := j.mono e
  exact ⟨a, p, rfl, rfl, ⟨_, _, q1⟩, ⟨_, _, q2⟩, k H1 e Q q⟩
theorem rvx_ownn {sp : Sp} {E : XK} (i : IA S H a C fs) (j : IA S H p C gs) (k : SpX K S sp [.ref a, .ref p] H E fun z H' => ∃ r, z = .bl r ∧ P (.bl (!r)) H') : RVX K S (rOIn C sp E) (.ref a) (.ref p) H P := fun H1 e Q q => by
  obtain ⟨⟨dx, q1⟩, _⟩ := i.mono e
  obtain ⟨⟨dy, q2⟩, _⟩ := j.mono e
  exact ⟨a, p, rfl, rfl, ⟨_, _, q1⟩, ⟨_, _, q2⟩, k H1 e _ fun z H2 e2 ⟨r, hz, hp⟩ => ⟨r, hz, q _ H2 e2 hp⟩⟩
end
section
variable {X : Cx} {CX : CXT} {k : Nat} {C g p : Addr} {ps : List Str} {sp : Sp} {E : XK} {x m f : Str} {e o : Expr} {es : List Expr} {t : TA} {ta : TE} {pos apos q : Pos}
theorem pe_makeO (M : Mk X.K C g) (F : Ok X.prog X.w X.K X.mg X.base CX k g ps sp) (hr : Room (k + 1) X.A) (hg : Gl X x) (hm : X.mg x = some (.ref C)) (hx : Passes CX X E) (ha : PA X (e :: es) t) (hdb : (x == ("__debug__" : Str)) = false := by decide)
    (he : starEach (e :: es) X.env = (false, eval e X.env) :: starEach es X.env := by rfl) (hpl : (backTo pos (starEach es X.env)).any (·.1) = false := by rfl) : PE X (.Call (.Name x q) (e :: es) [] pos) (StX.tMakeR C sp E t) :=
  StX.pe_makeR M F.r hr hg hm hx ha hdb he hpl
theorem pe_methO {pl : Sem Bool} (he : PE X o ta) (c : Cls X.K C) (hm : Meth X.K C m g)
    (F : Ok X.prog X.w X.K X.mg X.base CX k g ps sp) (hr : Room k X.A) (hx : Passes CX X E) (ha : PA X (e :: es) t)
    (hst : starEach (e :: es) X.env = (false, eval e X.env) :: starEach es X.env := by rfl) (hpl : (backTo pos (starEach es X.env)).any (·.1) = false := by rfl)
    (ht : eval (.Call (.Attribute o m apos) (e :: es) [] pos) X.env = (do
      let ov ← eval o X.env
      standAt apos.atName
      let (f, first) ← holding [ov] (getMethod ov m pl)
      callWith pos f first (backTo pos (starEach (e :: es) X.env)) (backToKw pos (keywordEach [] X.env))) := by rfl) :
    PE X (.Call (.Attribute o m apos) (e :: es) [] pos) (tMethR C m sp E ta t) := pe_methR (pl := pl) he c hm F.r hr hx ha hst hpl ht
theorem pe_methO0 {pl : Sem Bool} (he : PE X o ta) (c : Cls X.K C) (hm : Meth X.K C m g) (F : Ok X.prog X.w X.K X.mg X.base CX k g ps sp) (hr : Room k X.A) (hx : Passes CX X E)
    (ht : eval (.Call (.Attribute o m apos) [] [] pos) X.env = (do
      let ov ← eval o X.env
      standAt apos.atName
      let (f, first) ← holding [ov] (getMethod ov m pl)
      callWith pos f first (backTo pos (starEach [] X.env)) (backToKw pos (keywordEach [] X.env))) := by rfl) :
    PE X (.Call (.Attribute o m apos) [] [] pos) (tMethR C m sp E ta tNil) := by
  refine ⟨fun pins s σ H Q I h => ?_⟩
  refine PySem.W.methodCall_KW (pl := pl) (thn (he.run pins s σ H _ I h) fun u s1 ⟨x, H1, I1, rx, a, dx, fs, ex, ea, l, q⟩ => ?_) ht
  subst ex
  obtain rfl : u = Value.ref a := rx
  refine getmeth_ok I1 ea c hm l ?_
  exact PySem.W.callWith_K0 (first := [.ref a]) I1.kIn hm.kp (wpAny_call (run_fnR (us := [.ref a]) (vs := [.ref a]) F.r hr hx I1 (.cons rfl .nil) q))
theorem pe_propO (he : PE X e ta) (c : Cls X.K C) (hp : PropOf X.K C f p g) (F : Ok X.prog X.w X.K X.mg X.base CX k g ps sp) (hr : Room (k + 1) X.A) (hx : Passes CX X.nox E)
    (hab : attributeBase e f X.env (eval e X.env) = eval e X.env := by rfl) : PE X (.Attribute e f pos) (tPropI C sp E ta) := by
  obtain ⟨fd, F, hb, _⟩ := F
  exact pe_prop he c hp F hr hb .nil hx hab
end
end Fw

namespace Fw
open PySem PySem.Spec PyProof.Rows L2
/-- what the comparisons ask of a class besides its own defs -/
structure OrdC (K : PySem.W.Frag) (C : Addr) : Prop where
  ob : PySem.W.mroIn K C (.type "object") = some true
  ne : PySem.W.findIn K (.ref C) "__ne__" = some (some (.builtin "object.__ne__"))
  gt : PySem.W.findIn K (.ref C) "__gt__" = some (some (.builtin "object.__gt__"))
  ge : PySem.W.findIn K (.ref C) "__ge__" = some (some (.builtin "object.__ge__"))
section
variable {X : Cx} {CX : CXT} {k : Nat} {C g p : Addr} {ps : List Str} {sp : Sp} {E : XK} {op : CmpOp}
theorem inst_at {pins : List (Addr × Obj)} {σ : L2.St} {H : Hp} {s : Shared} {a C : Addr} (I : Inv X pins σ H s) (h : ∃ dx fs, H a = some (.ins C dx fs)) : ∃ ox od, PySem.W.InstAt s.heap a ox C (some od) := by
  obtain ⟨dx, fs, h⟩ := h
  obtain ⟨mA, O, _⟩ := ins_get I.hok h
  obtain ⟨od, J, _⟩ := O.look
  exact ⟨_, _, J⟩
theorem op_ownI (hop : ∀ a b, compareOp op a b = richCompare op a b) (hm : Meth X.K C (cmpInfo op).2.1 g) (F : Ok X.prog X.w X.K X.mg X.base CX k g ps sp) (hr : Room k X.A) (hx : Passes CX X E) : OpR X (compareOp op) (rOI C sp E) := by
  intro pins s σ H x y v u Q I rx ry h
  obtain ⟨a, b, rfl, rfl, ha, hb, q⟩ := h
  cases (show v = Value.ref a from rx)
  cases (show u = Value.ref b from ry)
  obtain ⟨_, _, J⟩ := inst_at I ha
  obtain ⟨_, _, J'⟩ := inst_at I hb
  obtain ⟨m, hF⟩ := I.fr
  rw [hop]
  refine PySem.W.cmp_K (op := op) (tb := .ref C) hr.units0 hF I.ok.mod.kin J J'.type (by simp [PySem.W.notFirst]) hm.at_ hm.fn ?_
  refine wpAny_mono (wpAny_call (run_fnR (us := [.ref a, .ref b]) (vs := [.ref a, .ref b]) F.r hr hx I (.cons rfl (.cons rfl .nil)) q)) (fun w s' z => ?_) fun _ _ x => x
  obtain ⟨z', H', I', rz, qz⟩ := z
  exact SlX.cmpback rz ⟨z', H', I', rz, qz⟩
theorem op_ownM {id : String} (hop : ∀ a b, compareOp op a b = richCompare op a b) (hid : id = "object.__gt__" ∨ id = "object.__ge__") (hbs : ∀ v, bindSpecial (.builtin id) v = pure (.builtin id, [v])) (ob : PySem.W.mroIn X.K C (.type "object") = some true)
    (hb : PySem.W.findIn X.K (.ref C) (cmpInfo op).2.1 = some (some (.builtin id))) (hm : Meth X.K C (cmpInfo op).2.2 g) (F : Ok X.prog X.w X.K X.mg X.base CX k g ps sp) (hr : Room k X.A) (hx : Passes CX X E) : OpR X (compareOp op) (rOIm C sp E) := by
  intro pins s σ H x y v u Q I rx ry h
  obtain ⟨a, b, rfl, rfl, ha, hb', q⟩ := h
  cases (show v = Value.ref a from rx)
  cases (show u = Value.ref b from ry)
  obtain ⟨_, _, J⟩ := inst_at I ha
  obtain ⟨_, _, J'⟩ := inst_at I hb'
  rw [hop]
  refine mirror_K (op := op) hr.units0 hid (hbs _) I.kIn J J' ob hb hm.at_ hm.fn ?_
  refine wpAny_mono (wpAny_call (run_fnR (us := [.ref b, .ref a]) (vs := [.ref b, .ref a]) F.r hr hx I (.cons rfl (.cons rfl .nil)) q)) (fun w s' z => ?_) fun _ _ x => x
  obtain ⟨z', H', I', rz, qz⟩ := z
  exact SlX.cmpback rz ⟨z', H', I', rz, qz⟩
section
variable (K : PySem.W.Frag) (hK : X.K = K)
include hK
theorem op_ltO (hm : Meth K C "__lt__" g) (F : Ok X.prog X.w K X.mg X.base CX k g ps sp) (hr : Room k X.A) (hx : Passes CX X E) : OpR X (compareOp .Lt) (rOI C sp E) := by subst hK; exact op_ownI (op := .Lt) (fun _ _ => rfl) hm F hr hx
theorem op_leO (hm : Meth K C "__le__" g) (F : Ok X.prog X.w K X.mg X.base CX k g ps sp) (hr : Room k X.A) (hx : Passes CX X E) : OpR X (compareOp .LtE) (rOI C sp E) := by subst hK; exact op_ownI (op := .LtE) (fun _ _ => rfl) hm F hr hx
theorem op_eqO (hm : Meth K C "__eq__" g) (F : Ok X.prog X.w K X.mg X.base CX k g ps sp) (hr : Room k X.A) (hx : Passes CX X E) : OpR X (compareOp .Eq) (rOI C sp E) := by subst hK; exact op_ownI (op := .Eq) (fun _ _ => rfl) hm F hr hx
theorem op_gtO (o : OrdC K C) (hm : Meth K C "__lt__" g) (F : Ok X.prog X.w K X.mg X.base CX k g ps sp) (hr : Room k X.A) (hx : Passes CX X E) : OpR X (compareOp .Gt) (rOIm C sp E) := by
  subst hK; exact op_ownM (op := .Gt) (fun _ _ => rfl) (.inl rfl) (fun v => PySem.F.slot_object_gt.bind v) o.ob o.gt hm F hr hx
theorem op_geO (o : OrdC K C) (hm : Meth K C "__le__" g) (F : Ok X.prog X.w K X.mg X.base CX k g ps sp) (hr : Room k X.A) (hx : Passes CX X E) : OpR X (compareOp .GtE) (rOIm C sp E) := by
  subst hK; exact op_ownM (op := .GtE) (fun _ _ => rfl) (.inr rfl) (fun v => PySem.F.slot_object_ge.bind v) o.ob o.ge hm F hr hx
theorem op_neO (o : OrdC K C) (hm : Meth K C "__eq__" g) (F : Ok X.prog X.w K X.mg X.base CX k g ps sp) (hr : Room (k + 1) X.A) (hx : Passes CX X E) : OpR X (compareOp .NotEq) (rOIn C sp E) := by
  subst hK
  intro pins s σ H x y v u Q I rx ry h
  obtain ⟨a, b, rfl, rfl, ha, hb', q⟩ := h
  cases (show v = Value.ref a from rx)
  cases (show u = Value.ref b from ry)
  obtain ⟨_, _, J⟩ := inst_at I ha
  obtain ⟨_, _, J'⟩ := inst_at I hb'
  show wpAny _ _ (richCompare .NotEq (.ref a) (.ref b)) _ _ s
  refine ne_K (by have := hr.units; omega) I.kIn J J' o.ob o.ne hm.at_ hm.fn ?_
  refine wpAny_mono (wpAny_call (SlX.run_at (us := [.ref a, .ref b]) (ws := [.ref a, .ref b]) F.r hr.in1 I.env0.in1 hx I (.cons rfl (.cons rfl .nil)) q)) (fun w s' z => ?_) fun _ _ x => x
  obtain ⟨z', H', I', rz, r, ez, qz⟩ := z
  subst ez
  cases (show w = Value.bool r from rz)
  exact ⟨r, rfl, .bl (!r), H', I', rfl, qz⟩
theorem un_negO (hm : Meth K C "__neg__" g) (F : Ok X.prog X.w K X.mg X.base CX k g ps sp) (hr : Room k X.A) (hx : Passes CX X E) : UnR X (unaryOp .USub) (rOU C sp E) := by
  subst hK
  intro pins s σ H x v Q I rx h
  obtain ⟨a, rfl, ha, q⟩ := h
  cases (show v = Value.ref a from rx)
  obtain ⟨_, _, J⟩ := inst_at I ha
  obtain ⟨m, hF⟩ := I.fr
  exact PySem.W.ksp_neg hF I.ok.mod.kin J hm.at_ hm.fn (wpAny_call (run_fnR (us := [.ref a]) (vs := [.ref a]) F.r hr hx I (.cons rfl .nil) q))
end
/-! ### order of tuples of whole numbers -/
/-- from the first pair that differs on; z: what the lengths say -/
def lexI (r : Int → Int → Bool) (z : Nat → Nat → Bool) : List Int → List Int → Bool
  | x :: xs, y :: ys => if x = y then lexI r z xs ys else r x y
  | xs, ys => z xs.length ys.length
def rOrdT (K : PySem.W.Frag) (r : Int → Int → Bool) (z : Nat → Nat → Bool) : R2 := fun x y H Q => ∃ (a b : Addr) (ns ms : List Int), x = .ref a ∧ y = .ref b ∧ SqT K H a (ns.map V.int) ∧ SqT K H b (ms.map V.int) ∧ ns.length = ms.length ∧ Q (.bl (lexI r z ns ms)) H
theorem lexAt_I {r : Int → Int → Bool} {z : Nat → Nat → Bool} {c : Bool} : ∀ (ns ms : List Int), ns.length = ms.length → ∀ (i : Nat) (as bs : List Int), as.length = i → bs.length = i → c = z 0 0 →
    Ob.lexAt (fun j => decide ((as ++ ns).getD j 0 = (bs ++ ms).getD j 0)) (fun j => r ((as ++ ns).getD j 0) ((bs ++ ms).getD j 0)) c i ns.length = lexI r z ns ms := by
  intro ns
  induction ns with
  | nil =>
    intro ms h i as bs _ _ hc
    cases ms with
    | nil => show c = _; rw [hc]; rfl
    | cons _ _ => cases h
  | cons x xs ih =>
    intro ms h i as bs ha hb hc
    cases ms with
    | nil => cases h
    | cons y ys =>
      have gx : (as ++ x :: xs).getD i 0 = x := by subst ha; simp
      have gy : (bs ++ y :: ys).getD i 0 = y := by subst hb; simp
      rw [List.length_cons, Ob.lexAt_succ]
      simp only [gx, gy]
      by_cases e : x = y
      · rw [if_pos (decide_eq_true e)]
        have z2 := ih ys (Nat.succ.inj h) (i + 1) (as ++ [x]) (bs ++ [y]) (by simp [ha]) (by simp [hb]) hc
        simp only [List.append_assoc, List.singleton_append] at z2
        rw [z2]
        show _ = if x = y then _ else _
        rw [if_pos e]
      · rw [if_neg (by simpa using e)]
        show _ = if x = y then _ else _
        rw [if_neg e]
end
section
variable {X : Cx}
theorem ordT {op : CmpOp} {r : Int → Int → Bool} {z : Nat → Nat → Bool} (hop : ∀ a b, compareOp op a b = richCompare op a b)
    (tup : ∀ {A : Around} {s : Shared} {l b : Addr} {items items2 : Array Value} {e r : Nat → Bool}, s.heap.IsTuple l items → s.heap.IsTuple b items2 → A.units < cLine →
      (∀ j (h1 : j < items.size) (h2 : j < items2.size), SeqAt.EqAt A.in1 s items[j] items2[j] (e j)) → (∀ j (h1 : j < items.size) (h2 : j < items2.size), e j = false → Ob.RcOp op A.in1 s items[j] items2[j] (r j)) →
      Ob.RcOp op A s (.ref l) (.ref b) (Ob.lexAt e r (z items.size items2.size) 0 (min items.size items2.size)))
    (one : ∀ {A : Around} {s : Shared} (a b : Int) (t u : Tok), Ob.RcOp op A s (.int a t) (.int b u) (r a b)) (hz : ∀ n, z n n = z 0 0) (hu : X.A.units < cLine) : OpR X (compareOp op) (rOrdT X.K r z) := by
  intro pins s σ H x y v u Q I rx ry h
  obtain ⟨a, b, ns, ms, rfl, rfl, ha, hb, hl, q⟩ := h
  cases rx
  cases ry
  obtain ⟨its, r1, p1, _⟩ := I.tuple ha
  obtain ⟨its2, r2, p2, _⟩ := I.tuple hb
  have i1 : IntsAre its ns := Vals.ints r1
  have i2 : IntsAre its2 ms := Vals.ints r2
  have e1 : its.toArray.size = ns.length := by rw [List.size_toArray]; exact i1.length
  have e2 : its2.toArray.size = ms.length := by rw [List.size_toArray]; exact i2.length
  have at1 : ∀ j (h1 : j < its.toArray.size), ∃ t, its.toArray[j] = .int (ns.getD j 0) t := fun j h1 => PyProof.Rows.IntsAre.int_at i1 _ _ (by simp at h1; simp [h1])
  have at2 : ∀ j (h1 : j < its2.toArray.size), ∃ t, its2.toArray[j] = .int (ms.getD j 0) t := fun j h1 => PyProof.Rows.IntsAre.int_at i2 _ _ (by simp at h1; simp [h1])
  have R := tup (A := X.A) (s := s) (e := fun j => decide (ns.getD j 0 = ms.getD j 0)) (r := fun j => r (ns.getD j 0) (ms.getD j 0)) p1 p2 hu (fun j h1 h2 => by
    obtain ⟨t, et⟩ := at1 j h1
    obtain ⟨t', et'⟩ := at2 j h2
    rw [et, et']
    have z : (ns.getD j 0 == ms.getD j 0) = decide (ns.getD j 0 = ms.getD j 0) := by
      by_cases q : ns.getD j 0 = ms.getD j 0
      · rw [decide_eq_true q]; exact beq_iff_eq.mpr q
      · rw [decide_eq_false q]; exact beq_eq_false_iff_ne.mpr q
    rw [← z]
    exact SeqAt.EqAt.int_int _ _ _ _) (fun j h1 h2 _ => by
    obtain ⟨t, et⟩ := at1 j h1
    obtain ⟨t', et'⟩ := at2 j h2
    rw [et, et']
    exact one _ _ _ _)
  rw [e1, e2, hl, Nat.min_self] at R
  have L := lexAt_I (r := r) (z := z) (c := z ms.length ms.length) ns ms hl 0 [] [] rfl rfl (hz _)
  simp only [List.nil_append] at L
  rw [hl] at L
  rw [L] at R
  rw [hop]
  exact R X.prog X.w X.xe (EP X pins σ Q) ⟨.bl _, H, I, rfl, q⟩
variable (K : PySem.W.Frag) (hK : X.K = K)
include hK
theorem op_ltT (hu : X.A.units < cLine) : OpR X (compareOp .Lt) (rOrdT K (fun a b => decide (a < b)) (fun a b => decide (a < b))) := by subst hK; exact ordT (fun _ _ => rfl) Ob.RcOp.tuples_lt Ob.RcOp.lt_int (by simp) hu
theorem op_leT' (hu : X.A.units < cLine) : OpR X (compareOp .LtE) (rOrdT K (fun a b => decide (a ≤ b)) (fun a b => decide (a ≤ b))) := by subst hK; exact ordT (fun _ _ => rfl) Ob.RcOp.tuples_le Ob.RcOp.le_int (by simp) hu
theorem op_gtT (hu : X.A.units < cLine) : OpR X (compareOp .Gt) (rOrdT K (fun a b => decide (b < a)) (fun a b => decide (b < a))) := by subst hK; exact ordT (fun _ _ => rfl) Ob.RcOp.tuples_gt Ob.RcOp.gt_int (by simp) hu
theorem op_geT (hu : X.A.units < cLine) : OpR X (compareOp .GtE) (rOrdT K (fun a b => decide (b ≤ a)) (fun a b => decide (b ≤ a))) := by subst hK; exact ordT (fun _ _ => rfl) Ob.RcOp.tuples_ge Ob.RcOp.ge_int (by simp) hu
end
section
variable {K : PySem.W.Frag} {S : Dst} {H : Hp} {a p : Addr}
theorem rv_ordT {r : Int → Int → Bool} {z : Nat → Nat → Bool} {ns ms : List Int} (ha : UA K S H a (ns.map V.int)) (hb : UA K S H p (ms.map V.int)) (hl : ns.length = ms.length) : RV K S (rOrdT K r z) (.ref a) (.ref p) H (.bl (lexI r z ns ms)) :=
  fun H1 e _ q => ⟨a, p, ns, ms, rfl, rfl, (ha.mono e).q, (hb.mono e).q, hl, q H1 e.refl⟩
end
end Fw

namespace Fw
open PySem PySem.Spec PyProof.Rows L2
/-! ### t.index(x), flat values, found -/
def rIndexT (K : PySem.W.Frag) : V → List V → Hp → VK → Prop := fun x xs H Q => ∃ (a : Addr) (ys : List V) (y : V) (j : Nat) (z : V), x = V.ref a ∧ xs = [y] ∧ SqT K H a ys ∧ flatV y = true ∧ ys.all flatV = true ∧ ys[j]? = some z ∧ eqV z y = true ∧
  (∀ (m : Nat) (z' : V), m < j → ys[m]? = some z' → eqV z' y = false) ∧ Q (.int (j : Nat)) H
theorem mt_tindex {X : Cx} (K : PySem.W.Frag) (hK : X.K = K) : MtR X "tuple.index" (rIndexT K) := by
  subst hK
  intro pins s σ H x xs v us Q I rx rxs h
  obtain ⟨a, ys, y, j, z, rfl, rfl, hs, fy, fys, hz, hzj, hno, q⟩ := h
  cases rx
  cases rxs with
  | cons ry rt =>
    rename_i uy ut
    cases rt
    obtain ⟨its, rv, ⟨⟨cls, dd, data, sl⟩, ho, hc, n, hd⟩, hlen⟩ := I.tuple hs
    simp only at hc hd
    subst hc hd
    obtain ⟨u, hu, ru⟩ := rv.get hz
    obtain ⟨hjl, hje⟩ := List.getElem?_eq_some_iff.mp hu
    have hvl := rv.length
    have hj : j < its.toArray.size := by simpa using hjl
    have hsl := sizeLine_eq
    refine call_meets PySem.F.slot_tuple_index ⟨_, ho, rfl⟩ PySem.F.entry_tuple_index (PySem.F.args_tuple_index_2 _ _)
      (SeqAt.tuple_index2_found a its.toArray n dd sl uy (fun m => match its.toArray[m]? with | some w => eqU y w | none => false) j hj (Nat.zero_le _) hj ?_ ?_) ⟨ho, fun m hm => ?_, ?_⟩
    · have e1 : its.toArray[j]? = some u := by simpa using hu
      simp only [e1]
      rw [eqU_of ru (flat_at fys hz)]
      exact hzj
    · intro m hm _ hmj
      have hml : m < its.length := by simpa using hm
      have hmy : m < ys.length := by omega
      have hy' : ys[m]? = some ys[m] := List.getElem?_eq_getElem hmy
      obtain ⟨u2, hu2, ru2⟩ := rv.get hy'
      have e1 : its.toArray[m]? = some u2 := by simpa using hu2
      simp only [e1]
      rw [eqU_of ru2 (flat_at fys hy')]
      exact hno m _ hmj hy'
    · have hml : m < its.length := by simpa using hm
      have e1 : its.toArray[m]? = some its.toArray[m] := Array.getElem?_eq_getElem hm
      simp only [e1]
      exact mem_eqAt ry fy rv fys _ (by simp)
    · exact ⟨.int (j : Nat), H, I.tok _, ⟨_, rfl⟩, q⟩
theorem rv_none : True := trivial
/-! ### isinstance of an instance -/
structure IsC (K : PySem.W.Frag) (C : Addr) : Prop where
  ca : PySem.W.findIn K (.ref C) "__class__" = some (some (.builtin "object.__class__"))
  cn : PySem.W.specialIn K (.builtin "object.__class__") "__get__" = some (some (.builtin "getset_descriptor.__get__"))
  ct : PySem.W.takesIn K (.builtin "object.__class__") = some true
  cm : PySem.W.mroIn K C (.type "object") = some true
section
variable {K : PySem.W.Frag} {S : Dst} {σ : L2.St} {H : Hp} {ta tb : TE} {tas : TA} {a C : Addr} {fs : List (Str × V)}
theorem rc_isO {D : Addr} {b : Bool} (i : IA S H a C fs) (c : Cls K C) (k : IsC K C) (hk : PySem.W.kitOne K (.ref C) (.ref D) = some b) : RC K S (rIsi K) [.ref a, .ref D] H (.bl b) := fun H1 e _ q => by
  obtain ⟨⟨dx, q2⟩, _⟩ := i.mono e
  exact ⟨.ref a, .ref D, .ref C, .ref D, b, rfl, .own D, .base (.ins q2 c k.ca k.cn k.ct k.cm), hk, q H1 e.refl⟩
theorem kit_self {C : Addr} : PySem.W.kitOne K (.ref C) (.ref C) = some true := by unfold PySem.W.kitOne; rw [if_pos (by simp)]
theorem ev_isO {D : Addr} {b : Bool} (h : Ev K S ta σ H (.ref a)) (hd : Ev K S tb σ H (.ref D)) (i : IA S H a C fs) (c : Cls K C) (k : IsC K C) (hk : PySem.W.kitOne K (.ref C) (.ref D) = some b) : Ev K S (tCB (rIsi K) (tCons ta (tCons tb tNil))) σ H (.bl b) :=
  ev_cb (ea_cons h (ea_cons hd ea_nil)) (rc_isO i c k hk)
end
/-- what a class's facts are, as one Bool -/
def ordB (K : PySem.W.Frag) (x : Str) : Bool := decide (PySem.W.mroIn K (He.ga K x) (.type "object") = some true) && (He.eqO (PySem.W.findIn K (.ref (He.ga K x)) "__ne__") (some (some (.builtin "object.__ne__"))) && (He.eqO (PySem.W.findIn K (.ref (He.ga K x)) "__gt__") (some (some (.builtin "object.__gt__"))) && He.eqO (PySem.W.findIn K (.ref (He.ga K x)) "__ge__") (some (some (.builtin "object.__ge__")))))
theorem ordB_ok {K : PySem.W.Frag} {x : Str} (h : ordB K x = true) : OrdC K (He.ga K x) := by
  obtain ⟨h1, h⟩ := He.ba h
  obtain ⟨h2, h⟩ := He.ba h
  obtain ⟨h3, h4⟩ := He.ba h
  exact ⟨of_decide_eq_true h1, He.eqO_ok h2, He.eqO_ok h3, He.eqO_ok h4⟩
def iscB (K : PySem.W.Frag) (x : Str) : Bool := He.eqO (PySem.W.findIn K (.ref (He.ga K x)) "__class__") (some (some (.builtin "object.__class__"))) && (He.eqO (PySem.W.specialIn K (.builtin "object.__class__") "__get__") (some (some (.builtin "getset_descriptor.__get__"))) && (decide (PySem.W.takesIn K (.builtin "object.__class__") = some true) && decide (PySem.W.mroIn K (He.ga K x) (.type "object") = some true)))
theorem iscB_ok {K : PySem.W.Frag} {x : Str} (h : iscB K x = true) : IsC K (He.ga K x) := by
  obtain ⟨h1, h⟩ := He.ba h
  obtain ⟨h2, h⟩ := He.ba h
  obtain ⟨h3, h4⟩ := He.ba h
  exact ⟨He.eqO_ok h1, He.eqO_ok h2, of_decide_eq_true h3, of_decide_eq_true h4⟩
end Fw
namespace Fw
open PySem PySem.Spec PyProof.Rows L2
theorem mt_indexK {X : Cx} (K : PySem.W.Frag) (hK : X.K = K) : MtR X "list.index" (rIndex K) := by
  subst hK
  exact mt_index
/-! ### a promise: what is given, what may change, what comes back -/
def sp_x (A : List V → Hp → Dst → (V → Hp → Prop) → Prop) : Sp := fun vs H Q _ => ∃ S P, A vs H S P ∧ Lx S H H ∧ ∀ v H', Lx S H H' → P v H' → Q v H'
section
variable {K : PySem.W.Frag} {S : Dst} {σ : L2.St} {H : Hp} {tas : TA} {E : XK} {vs : List V} {A : List V → Hp → Dst → (V → Hp → Prop) → Prop} {P' : V → Hp → Prop}
theorem spx_0 (k : ∀ H1, Lx S H H1 → ∃ P, A vs H1 none P ∧ ∀ v H2, Lx S H1 H2 → P v H2 → P' v H2) : SpX K S (sp_x A) vs H E P' := fun H1 e Q q => by
  obtain ⟨P, a, i⟩ := k H1 e
  exact ⟨none, P, a, Lx.rfl0, fun v H' e2 p => q v H' (e.refl.of0 e2) (i v H' (e.refl.of0 e2) p)⟩
theorem spx_S (k : ∀ H1, Lx S H H1 → ∃ P, A vs H1 S P ∧ ∀ v H2, Lx S H1 H2 → P v H2 → P' v H2) : SpX K S (sp_x A) vs H E P' := fun H1 e Q q => by
  obtain ⟨P, a, i⟩ := k H1 e
  exact ⟨S, P, a, e.refl, fun v H' e2 p => q v H' e2 (i v H' e2 p)⟩
/-- a call of what gives one value -/
theorem ev_p0 {v : V} (h : EvA K S tas σ H vs) (k : ∀ H1, Lx S H H1 → A vs H1 none fun w _ => w = v) : Ev K S (tCall (sp_x A) [] E tas) σ H v :=
  (ex_call (P := fun w _ => w = v) h (by rw [List.append_nil]; exact spx_0 fun H1 e => ⟨_, k H1 e, fun _ _ _ p => p⟩)).ev fun _ _ _ z => z
theorem ex_p0 (h : EvA K S tas σ H vs) (k : ∀ H1, Lx S H H1 → ∃ P, A vs H1 none P ∧ ∀ v H2, Lx S H1 H2 → P v H2 → P' v H2) : EvX K S (tCall (sp_x A) [] E tas) σ H P' :=
  ex_call h (by rw [List.append_nil]; exact spx_0 k)
theorem ex_pS (h : EvA K S tas σ H vs) (k : ∀ H1, Lx S H H1 → ∃ P, A vs H1 S P ∧ ∀ v H2, Lx S H1 H2 → P v H2 → P' v H2) : EvX K S (tCall (sp_x A) [] E tas) σ H P' :=
  ex_call h (by rw [List.append_nil]; exact spx_S k)
theorem ex_p0X {PA : List V → Hp → Prop} (h : EvAX K S tas σ H PA) (k : ∀ vs H0, Lx S H H0 → PA vs H0 → ∀ H1, Lx S H0 H1 → ∃ P, A vs H1 none P ∧ ∀ v H2, Lx S H1 H2 → P v H2 → P' v H2) : EvX K S (tCall (sp_x A) [] E tas) σ H P' :=
  ex_callX h fun vs H1 e p => by rw [List.append_nil]; exact spx_0 (k vs H1 e p)
theorem ex_pSX {PA : List V → Hp → Prop} (h : EvAX K S tas σ H PA) (k : ∀ vs H0, Lx S H H0 → PA vs H0 → ∀ H1, Lx S H0 H1 → ∃ P, A vs H1 S P ∧ ∀ v H2, Lx S H1 H2 → P v H2 → P' v H2) : EvX K S (tCall (sp_x A) [] E tas) σ H P' :=
  ex_callX h fun vs H1 e p => by rw [List.append_nil]; exact spx_S (k vs H1 e p)
theorem newL_up {H0 H1 H2 : Hp} {xs : List V} {v : V} (e : Lx S H0 H1) (h : NewL none H1 xs v H2) : NewL S H0 xs v H2 := by
  obtain ⟨p, rfl, hp, _, h2⟩ := h
  exact ⟨p, rfl, e.fresh hp, e.ns hp, h2⟩
theorem newU_up {H0 H1 H2 : Hp} {xs : List V} {v : V} (e : Lx S H0 H1) (h : NewU none H1 xs v H2) : NewU S H0 xs v H2 := by
  obtain ⟨p, rfl, hp, _, h2⟩ := h
  exact ⟨p, rfl, e.fresh hp, e.ns hp, h2⟩
theorem newI_up {H0 H1 H2 : Hp} {C : Addr} {fs : List (Str × V)} {v : V} (e : Lx S H0 H1) (h : NewI none H1 C fs v H2) : NewI S H0 C fs v H2 := by
  obtain ⟨p, rfl, hp, h2⟩ := h
  exact ⟨p, rfl, e.fresh hp, h2.q, e.ns hp⟩
/-- the chain a < b < c -/
theorem ev_chain {r r' : R2} {ta tb tc : TE} {x y z : V} {b c : Bool} (ha : Ev K S ta σ H x) (hb : Ev K S tb σ H y) (hr : RV K S r x y H (.bl b)) (hc : b = true → Ev K S tc σ H z) (hr' : b = true → RV K S r' y z H (.bl c)) : Ev K S (tChain r r' ta tb tc) σ H (.bl (b && c)) := fun H1 e Q q =>
  ha H1 e _ fun H2 e2 => hb H2 (e.trans e2) _ fun H3 e3 => hr H3 ((e.trans e2).trans e3) _ fun H4 e4 => ⟨b, rfl, by
    have e5 := (e2.trans e3).trans e4
    cases b with
    | true =>
      show tc σ H4 _
      exact hc rfl H4 (e.trans e5) _ fun H5 e6 => hr' rfl H5 ((e.trans e5).trans e6) Q fun H6 e7 => q H6 ((e5.trans e6).trans e7)
    | false => exact q H4 e5⟩
theorem rv_eqD {x y : V} {d d' : PyData} (hx : ∀ H1, Lx S H H1 → Dp K H1 x d) (hy : ∀ H1, Lx S H H1 → Dp K H1 y d') (s1 : SeqAt.shaped d = true) (s2 : SeqAt.shaped d' = true) : RV K S (rEqD K) x y H (.bl (PyData.eqv d d')) := fun H1 e _ q => ⟨d, d', hx H1 e, hy H1 e, s1, s2, q H1 e.refl⟩
theorem rv_neD {x y : V} {d d' : PyData} (hx : ∀ H1, Lx S H H1 → Dp K H1 x d) (hy : ∀ H1, Lx S H H1 → Dp K H1 y d') (s1 : SeqAt.shaped d = true) (s2 : SeqAt.shaped d' = true) : RV K S (rNeD K) x y H (.bl (!PyData.eqv d d')) := fun H1 e _ q => ⟨d, d', hx H1 e, hy H1 e, s1, s2, q H1 e.refl⟩
theorem dp_ints {H : Hp} : ∀ ns : List Int, DpAll K H (ns.map V.int) (ns.map PyData.int)
  | [] => .nil
  | n :: ns => .cons (.int n) (dp_ints ns)

def tupDB (K : PySem.W.Frag) (x : Str) : Bool := match K.lookup (He.ga K x) with
  | some ⟨.type c, none, _, _⟩ => decide (c = "tuple")
  | _ => false
theorem tupDB_ok {K : PySem.W.Frag} {x : Str} (h : tupDB K x = true) : ∃ o, K.lookup (He.ga K x) = some o ∧ o.cls = .type "tuple" ∧ o.dict = none := by
  unfold tupDB at h
  cases q : K.lookup (He.ga K x) with
  | none => rw [q] at h; cases h
  | some o =>
    obtain ⟨oc, od, dt, osl⟩ := o
    rw [q] at h
    cases oc with
    | type c => cases od with
      | none => exact ⟨_, rfl, congrArg Value.type (of_decide_eq_true h), rfl⟩
      | some d => cases h
    | _ => cases od <;> cases h
theorem ev_tindex {ta te : TE} {p : Addr} {ys : List V} {y z : V} {j : Nat} (h : Ev K S ta σ H (.ref p)) (ty : ∃ o, K.lookup p = some o ∧ o.cls = .type "tuple" ∧ o.dict = none) (u : UA K S H p ys) (hv : Ev K S te σ H y) (fy : flatV y = true) (fs : ys.all flatV = true) (hz : ys[j]? = some z) (e1 : eqV z y = true)
    (hm : ∀ (m : Nat) (z' : V), m < j → ys[m]? = some z' → eqV z' y = false) : Ev K S (tBM K "tuple" (rIndexT K) ta (tCons te tNil)) σ H (.int (j : Int)) := fun H1 e Q q => h H1 e _ fun H2 e2 =>
  ⟨.inr (.inl ⟨rfl, ty⟩), hv H2 (e.trans e2) _ fun H3 e3 => ⟨p, ys, y, j, z, rfl, rfl, (u.mono ((e.trans e2).trans e3)).q, fy, fs, hz, e1, hm, q H3 (e2.trans e3)⟩⟩
theorem ev_lindex {tas : TA} {te : TE} {ys : List V} {y z : V} {j : Nat} (h : EvA K S tas σ H ys) (hl : ys.length ≤ sizeLine) (hv : Ev K S te σ H y) (fy : flatV y = true) (fs : ys.all flatV = true) (hz : ys[j]? = some z) (e1 : eqV z y = true)
    (hm : ∀ (m : Nat) (z' : V), m < j → ys[m]? = some z' → eqV z' y = false) : Ev K S (tBM K "list" (rIndex K) (tLst tas) (tCons te tNil)) σ H (.int (j : Int)) := fun H1 e Q q => ex_lst h hl H1 e _ fun v H2 e2 ⟨p, hv', _, ns, hp⟩ => by
  subst hv'
  exact ⟨.inl ⟨rfl, _, SqL.of hp⟩, hv H2 (e.trans e2) _ fun H3 e3 => ⟨p, ys, y, j, z, rfl, rfl, SqL.of (e3.1 _ _ ns hp), fy, fs, hz, e1, hm, q H3 (e2.trans e3)⟩⟩
end
section
variable {X : Cx} {o value : Expr} {f : Str} {pos pos' : Pos} {ta tv : TE}
theorem ps_fldK (K : PySem.W.Frag) (hK : X.K = K) (ha : PE X o ta) (hv : PE X value tv) (hs : swapsWith value (some (.Attribute o f pos')) pos.line X.env = pure false) : PS X (.Assign [.Attribute o f pos'] value pos) (sFld K ta tv f) := by subst hK; exact ps_fld ha hv hs
end
end Fw
namespace Fw
open PySem PySem.Spec PyProof.Rows L2
theorem len_le {vs : List V} (h : vs.length ≤ 100000) : vs.length ≤ sizeLine := by rw [sizeLine_eq]; omega
end Fw
namespace Fw
open PySem PySem.Spec PyProof.Rows L2
section
variable {K : PySem.W.Frag} {S : Dst} {H : Hp}
theorem rc_min2 {i j : Int} : RC K S (fun xs H Q => ∃ i j, xs = [.int i, .int j] ∧ Q (.int (if j < i then j else i)) H) [.int i, .int j] H (.int (min i j)) := fun H1 e Q q => ⟨i, j, rfl, by
  have z : (if j < i then j else i) = min i j := by split <;> omega
  rw [z]; exact q H1 e.refl⟩
theorem rc_max2 {i j : Int} : RC K S (fun xs H Q => ∃ i j, xs = [.int i, .int j] ∧ Q (.int (if j > i then j else i)) H) [.int i, .int j] H (.int (max i j)) := fun H1 e Q q => ⟨i, j, rfl, by
  have z : (if j > i then j else i) = max i j := by split <;> omega
  rw [z]; exact q H1 e.refl⟩
end
end Fw
namespace Fw
open PySem PySem.Spec PyProof.Rows L2
section
variable {K : PySem.W.Frag} {S : Dst} {σ : L2.St} {H : Hp} {te : TE}
/-- ex_lcL, the new list's place told apart from the drawing state -/
theorem ex_lcN {a : Addr} {xs : List V} {tl : TE} {j : Nat} {ws : List Nat} {t : TT} (h : Ev K S tl σ H (.ref a)) (hx : LA K S H a xs) (hz : xs.length < sizeLine) (hw : ∀ x, wipe ((wipe σ ws).set j (some x)) ws = wipe σ ws)
    (Pv : Addr → Nat → List V → Hp → Prop) (h0 : ∀ D H1, ¬ Sx S D → H D = none → Lx S H H1 → H1 D = some (.lst []) → Pv D 0 [] H1)
    (hs : ∀ D i x acc H1, ¬ Sx S D → H D = none → H1 D = some (.lst acc) → xs[i]? = some x → Lx S H H1 → Pv D i acc H1 → EvTX K S t ((wipe σ ws).set j (some x)) H1 fun b H2 =>
      (b = true → EvX K S te ((wipe σ ws).set j (some x)) H2 fun y H3 => Pv D (i + 1) (acc ++ [y]) (upd H3 D (.lst (acc ++ [y])))) ∧ (b = false → Pv D (i + 1) acc H2)) :
    EvX K S (tLc (iList K tl) (gName j) t te ws) σ H (fun v H2 => ∃ p acc, v = .ref p ∧ H p = none ∧ ¬ Sx S p ∧ H2 p = some (.lst acc) ∧ acc.length ≤ xs.length ∧ Pv p xs.length acc H2) := fun H0 e Q q => h H0 e _ fun H1 e1 => ⟨a, rfl, ⟨xs, (hx.mono (e.trans e1)).q⟩, fun Dl hD => by
  have w1 : Lx S H H1 := e.trans e1
  have nD : ¬ Sx S Dl := w1.ns hD
  have fD : H Dl = none := w1.fresh hD
  refine lc_list (xs := xs) (fun i H' => ∃ acc, H' Dl = some (.lst acc) ∧ acc.length ≤ i ∧ Lx S H1 H' ∧ Pv Dl i acc H') ⟨[], upd_same, Nat.le_refl _, w1.new hD, h0 Dl _ nD fD (w1.trans (w1.new hD)) upd_same⟩ (fun i H' _ ⟨acc, _, _, e2, _⟩ => (hx.mono (w1.trans e2)).q) ?_ ?_
  · rintro i x H' hi ⟨acc, g1, g2, e2, p⟩
    refine ⟨hw x, hs Dl i x acc H' nD fD g1 hi (w1.trans e2) p H' e2.refl _ fun b H2 e3 pb => ?_⟩
    cases b with
    | true =>
      show te _ H2 _
      refine pb.1 rfl H2 ((w1.trans e2).trans e3).refl _ fun y H3 e4 py => ⟨acc, e4.1 _ _ nD (e3.1 _ _ nD g1), Nat.lt_of_le_of_lt g2 (Nat.lt_of_lt_of_le ((List.getElem?_eq_some_iff.mp hi).1) (Nat.le_of_lt hz)), acc ++ [y], upd_same, ?_, ?_, py⟩
      · rw [List.length_append]; exact Nat.succ_le_succ g2
      · have e5 := (e2.trans e3).trans e4
        exact e5.put nD fun u z => by rw [hD] at z; cases z
    | false =>
      show ∃ acc, _
      exact ⟨acc, e3.1 _ _ nD g1, Nat.le_succ_of_le g2, e2.trans e3, pb.2 rfl⟩
  · rintro H' ⟨acc, g1, g2, e2, p⟩
    exact q _ _ (e1.trans e2) ⟨Dl, acc, rfl, fD, nD, g1, g2, p⟩⟩
/-- [f x for x in xs], each item a new thing that is no list -/
theorem ex_mapX {a : Addr} {xs : List V} {tl : TE} {j : Nat} {ws : List Nat} (R : Nat → V → V → Hp → Prop) (h : Ev K S tl σ H (.ref a)) (hx : LA K S H a xs) (hz : xs.length < sizeLine) (hw : ∀ x, wipe ((wipe σ ws).set j (some x)) ws = wipe σ ws)
    (mono : ∀ i x y H1 H2, Lx S H1 H2 → R i x y H1 → R i x y H2) (stab : ∀ i x y H1 D us ws, H1 D = some (.lst us) → R i x y H1 → R i x y (upd H1 D (.lst ws)))
    (hs : ∀ i x H1, xs[i]? = some x → Lx S H H1 → EvX K S te ((wipe σ ws).set j (some x)) H1 fun y H2 => R i x y H2) :
    EvX K S (tLc (iList K tl) (gName j) tYes te ws) σ H (fun v H2 => ∃ p acc, v = .ref p ∧ H p = none ∧ ¬ Sx S p ∧ H2 p = some (.lst acc) ∧ acc.length = xs.length ∧ ∀ i x y, xs[i]? = some x → acc[i]? = some y → R i x y H2) := by
  refine (ex_lcN h hx hz hw (fun D i acc H1 => acc.length = i ∧ ∀ m x y, xs[m]? = some x → acc[m]? = some y → R m x y H1) (fun D H1 _ _ _ _ => ⟨rfl, fun m x y _ z => by simp at z⟩) ?_).imp ?_
  · intro D i x acc H1 nD f1 f2 hi e p H2 e2 Q q
    refine q true H2 e2.refl ⟨fun _ H3 e3 Q3 q3 => hs i x H1 hi e H3 (e2.trans e3) _ fun y H4 e4 r => q3 _ _ e4 ⟨by rw [List.length_append, p.1]; rfl, fun m x' y' hx' hy' => ?_⟩, fun z => nomatch z⟩
    have gD : H4 D = some (.lst acc) := e4.1 _ _ nD ((e2.trans e3).1 _ _ nD f2)
    refine stab _ _ _ _ _ acc _ gD ?_
    by_cases hm : m < acc.length
    · rw [List.getElem?_append_left hm] at hy'
      exact mono _ _ _ _ _ ((e2.trans e3).trans e4) (p.2 m x' y' hx' hy')
    · have h2 := (List.getElem?_eq_some_iff.mp hy').1
      rw [List.length_append] at h2
      have hm2 : m = i := by have := p.1; simp at h2; omega
      subst hm2
      rw [← p.1] at hy'
      simp at hy'
      subst hy'
      rw [hi] at hx'
      cases hx'
      exact r
  · rintro v H2 e ⟨p, acc, rfl, f1, f2, f3, _, g1, g2⟩
    exact ⟨p, acc, rfl, f1, f2, f3, g1, g2⟩
theorem IA.stab {a C : Addr} {fs : List (Str × V)} {H1 : Hp} {D : Addr} {us ws : List V} (h : H1 D = some (.lst us)) (i : IA S H1 a C fs) : IA S (upd H1 D (.lst ws)) a C fs := by
  obtain ⟨⟨dx, q⟩, n⟩ := i
  refine ⟨⟨dx, ?_⟩, n⟩
  rw [upd_ne (fun z => by subst z; rw [h] at q; cases q)]
  exact q
end
end Fw

namespace Fw
open PySem PySem.Spec PyProof.Rows L2
/-! ### a head whose defs stand at places told by functions -/
structure DefY where
  ad : PySem.W.Frag → Addr
  name : Str
  qual : Str
  params : Arguments
  body : List Stmt
  scope : Scope
  dfl : List He.Dv := []
  kwd : List (Str × He.Dv) := []
def fnWA (K : PySem.W.Frag) (a : Addr) : He.FnW := match K.lookup a with
  | some ⟨_, _, .func fd, _⟩ => some (fd.name, fd.qualname, fd.params, fd.body, fd.scope, fd.globals, fd.closure, fd.builtins)
  | _ => none
def DefY.val (d : DefY) : He.FnW := some (d.name, d.qual, d.params, .stmts d.body, d.scope, mainGlobals, [], builtinsNs)
def DefY.ok (K : PySem.W.Frag) (d : DefY) : Bool := PySem.W.keepIn K (.ref (d.ad K)) && (match K.lookup (d.ad K) with
  | some ⟨_, _, .func fd, _⟩ => PySem.W.codeIn K fd.code d.qual && (He.dflB K fd.defaults (d.dfl.map (He.Dv.v K)) && He.kwdB K fd.kwdefaults (d.kwd.map fun q => (q.1, q.2.v K)))
  | _ => false)
theorem DefY.funD {K : PySem.W.Frag} {d : DefY} (e : fnWA K (d.ad K) = d.val) (c : d.ok K = true) : ∃ fd, FunD K d.name d.qual d.params d.body d.scope (d.dfl.map (He.Dv.v K)) (d.kwd.map fun q => (q.1, q.2.v K)) (d.ad K) fd := by
  obtain ⟨kp, c2⟩ := He.ba c
  unfold fnWA at e
  cases q : K.lookup (d.ad K) with
  | none =>
    rw [q] at c2
    cases c2
  | some o =>
    obtain ⟨oc, od, dt, osl⟩ := o
    rw [q] at c2 e
    cases dt with
    | func fd =>
      obtain ⟨n1, n2, n3, n4, n5, n6, n7, n8, n9, n10, n11, n12, n13, n14, n15⟩ := fd
      have e2 : (some (n1, n2, n3, n4, n5, n6, n7, n15) : He.FnW) = some (d.name, d.qual, d.params, .stmts d.body, d.scope, mainGlobals, [], builtinsNs) := e
      simp only [Option.some.injEq, Prod.mk.injEq] at e2
      obtain ⟨h1, h2, h3, h4, h5, h6, h7, h8⟩ := e2
      subst h1 h2 h3 h4 h5 h6 h7 h8
      have c3 : (PySem.W.codeIn K n13 d.qual && (He.dflB K n8 (d.dfl.map (He.Dv.v K)) && He.kwdB K n9 (d.kwd.map fun q => (q.1, q.2.v K)))) = true := c2
      obtain ⟨k1, k2⟩ := He.ba c3
      obtain ⟨k3, k4⟩ := He.ba k2
      exact ⟨_, ⟨oc, od, n8, n9, n10, n11, n12, n13, n14, osl, rfl, q, k1, He.dflB_ok k3, He.kwdB_ok k4⟩, kp⟩
    | _ => cases c2
abbrev AlY : Type := He.AlT × (Bool × (Bool × List He.FnW))
/-- what an object names; a function's code and defaults; what a wrapper names; a class's namespace -/
def refsS (g : Addr → Option Obj) (a : Addr) : List Addr := match g a with
  | some o => He.refsD o
  | none => []
def codeS (g : Addr → Option Obj) (a : Addr) : List Addr := match g a with
  | some ⟨_, _, .func fd, _⟩ => He.refV fd.code ++ (He.refV fd.defaults ++ (He.refV fd.kwdefaults ++ fd.closure.map (·.2)))
  | _ => []
def wrapS (g : Addr → Option Obj) (a : Addr) : List Addr := match g a with
  | some ⟨_, _, .func _, _⟩ => []
  | some o => He.refsD o
  | none => []
def nsS (g : Addr → Option Obj) (a : Addr) : List Addr := match g a with
  | some ⟨_, _, .cls cd, _⟩ => [cd.ns]
  | _ => []
/-- the addresses that the facts look at: of the module's names fs, its classes cs, their members ms -/
def asS3 (g : Addr → Option Obj) (A C D N M W : List Addr) : List Addr := mainGlobals :: cStatics :: (C ++ (N ++ (D ++ (M ++ (W ++ (A ++ ((A ++ (M ++ W)).flatMap (codeS g))))))))
def asS2 (g : Addr → Option Obj) (A C D N M : List Addr) : List Addr := asS3 g A C D N M (M.flatMap (wrapS g))
def asS1 (g : Addr → Option Obj) (ms : List (Str × Str)) (A C D N : List Addr) : List Addr := asS2 g A C D N (ms.map fun p => He.ma (He.frT g (mainGlobals :: (C ++ (N ++ D)))) (He.ga (He.frT g [mainGlobals]) p.1) p.2)
def asS0 (g : Addr → Option Obj) (ms : List (Str × Str)) (A C D : List Addr) : List Addr := asS1 g ms A C D (D.flatMap (nsS g))
def asS (fs cs : List Str) (ms : List (Str × Str)) (g : Addr → Option Obj) : List Addr := asS0 g ms (fs.map (He.ga (He.frT g [mainGlobals]))) (cs.map (He.ga (He.frT g [mainGlobals]))) ((cs.map (He.ga (He.frT g [mainGlobals]))).flatMap (refsS g))
abbrev AsF : Type := (Addr → Option Obj) → List Addr
abbrev frY (n : AsF) (g : Addr → Option Obj) : PySem.W.Frag := He.frT g (n g)
def obsY (n : AsF) (fa : List He.Fa) (ts : List He.Tab) (ex : PySem.W.Frag → Bool) (fy : List DefY) (g : Addr → Option Obj) : AlY :=
  (He.obsT fa [] ts (frY n g), (ex (frY n g), (fy.all fun d => d.ok (frY n g), fy.map fun d => fnWA (frY n g) (d.ad (frY n g)))))
def valY (ts : List He.Tab) (fy : List DefY) (w : World) : AlY := (He.valT [] ts w, (true, (true, fy.map DefY.val)))
structure SaysY (fa : List He.Fa) (ts : List He.Tab) (ex : PySem.W.Frag → Bool) (fy : List DefY) (w : World) (h : Heap) (K : PySem.W.Frag) : Prop where
  t : He.SaysT fa [] ts w K
  more : ex K = true
  ok : (fy.all fun d => d.ok K) = true
  fn : (fy.map fun d => fnWA K (d.ad K)) = fy.map DefY.val
theorem SaysY.def_ {fa : List He.Fa} {ts : List He.Tab} {ex : PySem.W.Frag → Bool} {fy : List DefY} {w : World} {h : Heap} {K : PySem.W.Frag} (c : SaysY fa ts ex fy w h K) (i : Nat) {d : DefY} (hi : fy[i]? = some d := by rfl) :
    ∃ fd, FunD K d.name d.qual d.params d.body d.scope (d.dfl.map (He.Dv.v K)) (d.kwd.map fun q => (q.1, q.2.v K)) (d.ad K) fd := by
  have e2 : (fy.map fun d => fnWA K (d.ad K))[i]? = (fy.map DefY.val)[i]? := by rw [c.fn]
  rw [List.getElem?_map, List.getElem?_map, hi] at e2
  exact DefY.funD (Option.some.inj e2) (List.all_eq_true.mp c.ok d (List.mem_of_getElem? hi))
def hookY (n : AsF) (fa : List He.Fa) (ts : List He.Tab) (ex : PySem.W.Frag → Bool) (fy : List DefY) : PySem.W.Hook where
  α := AlY
  obs := fun s => obsY n fa ts ex fy s.heap.get?
  val := fun w => valY ts fy w
  says := fun w h => ∃ K : PySem.W.Frag, K.In h ∧ SaysY fa ts ex fy w h K
  of := fun w s e => by
    have e1 := congrArg (fun z : AlY => z.1) e
    have e2 := congrArg (fun z : AlY => z.2.1) e
    have e3 := congrArg (fun z : AlY => z.2.2.1) e
    have e4 := congrArg (fun z : AlY => z.2.2.2) e
    exact ⟨_, He.frT_in, e1, e2, e3, e4⟩
  keeps := fun _ _ _ ⟨K, hK, c⟩ k => ⟨K, PySem.W.Frag.In.keeps hK k, ⟨c.t, c.more, c.ok, c.fn⟩⟩
theorem obsY_eq {n : AsF} {fa : List He.Fa} {ts : List He.Tab} {ex : PySem.W.Frag → Bool} {fy : List DefY} {g : Addr → Option Obj} {s : Shared} (h : ∀ a, g a = s.heap.get? a) : obsY n fa ts ex fy g = (hookY n fa ts ex fy).obs s := by
  have e : g = s.heap.get? := funext h
  rw [e] <;> rfl
/-! ### a staticmethod, called on its class -/
structure SMet (K : PySem.W.Frag) (C : Addr) (m : Str) (p g : Addr) : Prop where
  at_ : PySem.W.findCls K (.ref C) (.type "type") m = some (.get (.builtin "staticmethod.__get__") (.ref p) .none (.ref C))
  rc : ∃ rest, PySem.W.recIn K p "staticmethod" = some (.ref g :: rest)
  rd : PySem.W.readsIn K C (.type "type") = true
  ga : PySem.W.specialIn K (.ref C) "__getattribute__" = some (some (.builtin "type.__getattribute__"))
def smB (K : PySem.W.Frag) (x m : Str) : Bool := He5.wrapB K (He.ga K x) "staticmethod" "staticmethod.__get__" m && (PySem.W.readsIn K (He.ga K x) (.type "type") && He.eqO (PySem.W.specialIn K (.ref (He.ga K x)) "__getattribute__") (some (some (.builtin "type.__getattribute__"))))
theorem smB_ok {K : PySem.W.Frag} {x m : Str} (h : smB K x m = true) : SMet K (He.ga K x) m (He.ma K (He.ga K x) m) (He5.wf K (He.ga K x) "staticmethod" m) := by
  obtain ⟨h1, h⟩ := He.ba h
  obtain ⟨h2, h3⟩ := He.ba h
  obtain ⟨k1, k2⟩ := He5.wrapB_ok h1
  exact ⟨k1, k2, h2, He.eqO_ok h3⟩
def propB (K : PySem.W.Frag) (x f : Str) : Bool := He.eqO (PySem.W.findIn K (.ref (He.ga K x)) f) (some (some (.ref (He.ma K (He.ga K x) f)))) && (He.eqO (PySem.W.specialIn K (.ref (He.ma K (He.ga K x) f)) "__get__") (some (some (.builtin "property.__get__"))) && (decide (PySem.W.takesIn K (.ref (He.ma K (He.ga K x) f)) = some true) && (match PySem.W.recIn K (He.ma K (He.ga K x) f) "property" with
    | some (.ref _ :: _) => true
    | _ => false)))
theorem propB_ok {K : PySem.W.Frag} {x f : Str} (h : propB K x f = true) : PropOf K (He.ga K x) f (He.ma K (He.ga K x) f) (He5.wf K (He.ga K x) "property" f) := by
  obtain ⟨h1, h⟩ := He.ba h
  obtain ⟨h2, h⟩ := He.ba h
  obtain ⟨h3, h4⟩ := He.ba h
  refine ⟨He.eqO_ok h1, He.eqO_ok h2, of_decide_eq_true h3, ?_⟩
  unfold He5.wf
  split at h4
  · rename_i f' r e
    exact ⟨r, by rw [e]⟩
  · cases h4
section
variable {X : Cx} {CX : CXT} {k : Nat} {C g p : Addr} {ps : List Str} {sp : Sp} {E : XK} {m : Str} {e o : Expr} {es : List Expr} {t : TA} {ta : TE} {pos apos : Pos}
def tSMeth (C : Addr) (sp : Sp) (E : XK) (ta : TE) (t : TA) : TE := fun σ H Q => ta σ H fun x H1 => x = .ref C ∧ t σ H1 fun vs H2 => sp vs H2 Q E
theorem pe_smethO {pl : Sem Bool} (he : PE X o ta) (c : SMet X.K C m p g) (F : Ok X.prog X.w X.K X.mg X.base CX k g ps sp) (hr : Room k X.A) (hx : Passes CX X E) (ha : PA X (e :: es) t)
    (hst : starEach (e :: es) X.env = (false, eval e X.env) :: starEach es X.env := by rfl) (hpl : (backTo pos (starEach es X.env)).any (·.1) = false := by rfl)
    (ht : eval (.Call (.Attribute o m apos) (e :: es) [] pos) X.env = (do
      let ov ← eval o X.env
      standAt apos.atName
      let (f, first) ← holding [ov] (getMethod ov m pl)
      callWith pos f first (backTo pos (starEach (e :: es) X.env)) (backToKw pos (keywordEach [] X.env))) := by rfl) :
    PE X (.Call (.Attribute o m apos) (e :: es) [] pos) (tSMeth C sp E ta t) := by
  refine ⟨fun pins s σ H Q I h => ?_⟩
  refine PySem.W.methodCall_KW (pl := pl) (thn (he.run pins s σ H _ I h) fun u s1 ⟨x, H1, I1, rx, ex, q⟩ => ?_) ht
  subst ex
  obtain rfl : u = Value.ref C := rx
  obtain ⟨rest, hp⟩ := c.rc
  refine PySem.W.method_cls I1.kIn c.ga (PySem.W.cls_bind I1.kIn c.rd c.at_ ?_)
  refine wpAny_call (PySem.W.sm_get (s := { s1 with toks := s1.toks + 1 }) I1.kIn hp (PySem.W.handed_on rfl ?_))
  have I2 := I1.tok (s1.toks + 1)
  refine PySem.W.callWith_K (first := []) (h₀ := X.base) I2.ok.mod.kin F.keep (thn (ha.run pos pins _ σ H1 _ I2 q) fun us s2 ⟨vs, H2, I3, r, q2⟩ => ⟨I3.kIn, ?_⟩) hst hpl
  exact wpAny_call (run_fnR (us := us) (vs := vs) F.r hr hx I3 r q2)
end
section
variable {K : PySem.W.Frag} {S : Dst} {σ : L2.St} {H : Hp} {ta : TE} {tas : TA} {C : Addr} {vs : List V} {sp : Sp} {E : XK} {P : V → Hp → Prop}
theorem ex_smeth (h : Ev K S ta σ H (.ref C)) (hv : EvA K S tas σ H vs) (k : SpX K S sp vs H E P) : EvX K S (tSMeth C sp E ta tas) σ H P := fun H1 e Q q => h H1 e _ fun H2 e2 =>
  ⟨rfl, hv H2 (e.trans e2) _ fun H3 e3 => k H3 ((e.trans e2).trans e3) _ fun z H4 e4 p => q z H4 ((e2.trans e3).trans e4) p⟩
theorem ex_smethX {PA : List V → Hp → Prop} (h : Ev K S ta σ H (.ref C)) (hv : EvAX K S tas σ H PA) (k : ∀ vs H1, Lx S H H1 → PA vs H1 → SpX K S sp vs H1 E P) : EvX K S (tSMeth C sp E ta tas) σ H P := fun H1 e Q q => h H1 e _ fun H2 e2 =>
  ⟨rfl, hv H2 (e.trans e2) _ fun vs H3 e3 pa => k vs H3 ((e.trans e2).trans e3) pa H3 ((e.trans e2).trans e3).refl _ fun z H4 e4 p => q z H4 ((e2.trans e3).trans e4) p⟩
end
section
variable {K : PySem.W.Frag} {S : Dst} {σ : L2.St} {H H' : Hp} {tas : TA} {t : TT} {D : Ends} {tu tz : TS} {g : TG}
theorem s_whileN (W : Nat → L2.St → Hp → Prop) (m0 : Nat) (h0 : ∀ H1, Lx S H H1 → W m0 σ H1) (wf : ∀ m σ' H', W m σ' H' → Lx S H' H')
    (hs : ∀ m σ' H', W m σ' H' → ∃ b, EvT K S t σ' H' b ∧ (b = true → St K S tu { D with nx := fun σ2 H2 => ∃ m', m' < m ∧ W m' σ2 H2, ct := fun σ2 H2 => ∃ m', m' < m ∧ W m' σ2 H2, bk := tz D } σ' H') ∧ (b = false → St K S tz D σ' H')) :
    St K S (tSeq (tWhile t tu) tz) D σ H :=
  s_while W m0 h0 (fun m σ' H' w H1 e Q q => by
    obtain ⟨b, h1, h2, h3⟩ := hs m σ' H' w
    exact h1 H1 e Q fun H2 e2 => q b H2 e2 ⟨fun hb => ⟨_, fun _ _ z => z, h2 hb H2 (e.trans e2)⟩, fun hb => h3 hb H2 (e.trans e2)⟩) wf
/-- for x in range(n), n told by what has effects -/
theorem s_forRX {PA : List V → Hp → Prop} (h : EvAX K S tas σ H PA) (k : ∀ vs H1, Lx S H H1 → PA vs H1 → ∃ n, vs = [.int n] ∧ St K S (tSeq (tFor (iRng1 (tCons (tC (.int n)) tNil)) g tu) tz) D σ H1) : St K S (tSeq (tFor (iRng1 tas) g tu) tz) D σ H := fun H1 e => h H1 e _ fun vs H2 e2 p => by
  obtain ⟨n, rfl, s⟩ := k vs H2 (e.trans e2) p
  exact s H2 (e.trans e2).refl
theorem rvx_cat {l b : Addr} {xs zs : List V} (hl : H l = some (.lst xs)) (nl : ¬ Sx S l) (hb : H b = some (.lst zs)) (nb : ¬ Sx S b) (hz : xs.length + zs.length ≤ sizeLine) : RVX K S rCat (.ref l) (.ref b) H (NewL S H (xs ++ zs)) := fun H1 e Q q =>
  ⟨l, b, xs, zs, rfl, rfl, e.1 _ _ nl hl, e.1 _ _ nb hb, hz, fun p hp => q _ _ (e.new hp) ⟨p, rfl, e.fresh hp, e.ns hp, upd_same⟩⟩
/-- tuple(l) of a list -/
theorem rc_tupleL {p : Addr} {ys : List V} (h : LA K S H p ys) : RCX K S (rTup1 K) [.ref p] H (NewU S H ys) := fun H1 e _ q => ⟨p, ys, rfl, .inl ⟨(h.mono e).q, fun l hl => q _ _ (e.new hl) ⟨l, rfl, e.fresh hl, e.ns hl, upd_same⟩⟩⟩
end
end Fw

namespace Fw
open PySem PySem.Spec PyProof.Rows L2
/-! ### own [i], own [i] = v, own % with a number -/
def rIxO (C : Addr) (sp : Sp) (E : XK) : R2 := fun x y H Q => ∃ a, x = .ref a ∧ (∃ dx fs, H a = some (.ins C dx fs)) ∧ sp [.ref a, y] H Q E
def sSetO (C : Addr) (sp : Sp) (E : XK) : TSet := fun o i v H Q => ∃ a, o = .ref a ∧ (∃ dx fs, H a = some (.ins C dx fs)) ∧ sp [.ref a, i, v] H (fun _ H' => Q H') E
def rBinI (C : Addr) (sp : Sp) (E : XK) : R2 := fun x y H Q => ∃ a i, x = .ref a ∧ y = .int i ∧ (∃ dx fs, H a = some (.ins C dx fs)) ∧ sp [.ref a, .int i] H Q E
structure BinI (K : PySem.W.Frag) (C : Addr) (nm : String) : Prop where
  sf : PySem.W.selfFirst K C = true
  r : PySem.W.findIn K (.ref C) (dunderR nm) = some none
  h1 : ∃ fo, PySem.W.findIn K (.type "int") (PySem.dunder nm) = some fo
  h2 : ∃ ro, PySem.W.findIn K (.type "int") (dunderR nm) = some ro
  su : PySem.W.subIn K (.type "int") (.ref C) = some false
def binB (K : PySem.W.Frag) (x : Str) (nm : String) : Bool := PySem.W.selfFirst K (He.ga K x) && (He.eqO (PySem.W.findIn K (.ref (He.ga K x)) (dunderR nm)) (some none) && ((PySem.W.findIn K (.type "int") (PySem.dunder nm)).isSome && ((PySem.W.findIn K (.type "int") (dunderR nm)).isSome && decide (PySem.W.subIn K (.type "int") (.ref (He.ga K x)) = some false))))
theorem binB_ok {K : PySem.W.Frag} {x : Str} {nm : String} (h : binB K x nm = true) : BinI K (He.ga K x) nm := by
  obtain ⟨h1, h⟩ := He.ba h
  obtain ⟨h2, h⟩ := He.ba h
  obtain ⟨h3, h⟩ := He.ba h
  obtain ⟨h4, h5⟩ := He.ba h
  exact ⟨h1, He.eqO_ok h2, Option.isSome_iff_exists.mp h3, Option.isSome_iff_exists.mp h4, of_decide_eq_true h5⟩
section
variable {X : Cx} {CX : CXT} {k : Nat} {C g : Addr} {ps : List Str} {sp : Sp} {E : XK} {a b : Expr} {ta tb : TE} {pos : Pos}
theorem pe_ixO (K : PySem.W.Frag) (hK : X.K = K) (hm : Meth K C "__getitem__" g) (hf : PySem.W.fnIn K g = true) (F : Ok X.prog X.w K X.mg X.base CX k g ps sp) (hr : Room (k + 1) X.A) (hx : Passes CX X E) (ha : PE X a ta) (hb : PE X b tb)
    (hs : ∀ o i, subscripted b true o i = runValue (.builtin "lifetime.subscript" ⟨[o, i], []⟩)) : PE X (.Subscript a b pos) (tOp (rIxO C sp E) ta tb) := by
  subst hK
  refine ⟨fun pins s σ H Q I h => ?_⟩
  refine Subscript_ (binT ha hb I h fun v u s2 x y H2 I2 rx ry q => ?_)
  obtain ⟨p, rfl, hp, q⟩ := q
  cases (show v = Value.ref p from rx)
  obtain ⟨_, _, J⟩ := inst_at I2 hp
  obtain ⟨m, hF⟩ := I2.fr
  exact PySem.W.sub_K hF I2.ok.mod.kin J hm.at_ hf hm.fn (wpAny_call (SlX.run_at (us := [.ref p, u]) (ws := [.ref p, y]) F.r hr.in1 I2.env0.in1 hx I2 (.cons rfl (.cons ry .nil)) q)) (hs _ _)
theorem set_O (K : PySem.W.Frag) (hK : X.K = K) (hm : Meth K C "__setitem__" g) (hq : PySem.W.noSeq K C = true) (F : Ok X.prog X.w K X.mg X.base CX k g ps sp) (hr : Room k X.A) (hx : Passes CX X E) : PSet X (sSetO C sp E) := by
  subst hK
  intro pins s σ H o i v ov iv u Q I ro ri rv h
  obtain ⟨p, rfl, hp, q⟩ := h
  cases (show ov = Value.ref p from ro)
  obtain ⟨_, _, J⟩ := inst_at I hp
  obtain ⟨m, hF⟩ := I.fr
  refine PySem.W.ksp_setItem hF I.ok.mod.kin J hq hm.at_ hm.fn (wpAny_mono (wpAny_call (run_fnR (us := [.ref p, iv, u]) (vs := [.ref p, i, v]) F.r hr hx I (.cons rfl (.cons ri (.cons rv .nil))) q)) (fun w s' z => ?_) fun _ _ x => x)
  obtain ⟨z', H', I', rz, qz⟩ := z
  exact ⟨H', I', qz⟩
theorem op_modO (K : PySem.W.Frag) (hK : X.K = K) (hb : BinI K C "mod") (hm : Meth K C "__mod__" g) (F : Ok X.prog X.w K X.mg X.base CX k g ps sp) (hr : Room k X.A) (hx : Passes CX X E) : OpR X (binaryOp .Mod) (rBinI C sp E) := by
  subst hK
  intro pins s σ H x y v u Q I rx ry h
  obtain ⟨p, i, rfl, rfl, hp, q⟩ := h
  cases (show v = Value.ref p from rx)
  obtain ⟨t, rfl⟩ := (show ∃ t, u = Value.int i t from ry)
  obtain ⟨_, _, J⟩ := inst_at I hp
  obtain ⟨m, hF⟩ := I.fr
  obtain ⟨fo, h1⟩ := hb.h1
  obtain ⟨ro, h2⟩ := hb.h2
  refine PySem.W.ksp_binT (op := .Mod) (T := "int") hF I.ok.mod.kin J rfl hb.sf hm.at_ hm.fn hb.r (.inl rfl) h1 h2 hb.su (wpAny_mono (wpAny_call (run_fnR (us := [.ref p, .int i t]) (vs := [.ref p, .int i]) F.r hr hx I (.cons rfl (.cons ⟨t, rfl⟩ .nil)) q)) (fun w s' z => ?_) fun _ _ x => x)
  obtain ⟨z', H', I', rz, qz⟩ := z
  exact SlX.cmpback rz ⟨z', H', I', rz, qz⟩
end
section
variable {K : PySem.W.Frag} {S : Dst} {σ : L2.St} {H : Hp} {a C : Addr} {fs : List (Str × V)} {y v : V} {sp : Sp} {E : XK} {P : V → Hp → Prop} {ta tb te : TE} {D : Ends} {tz : TS}
theorem rvx_ixO (i : IA S H a C fs) (k : SpX K S sp [.ref a, y] H E P) : RVX K S (rIxO C sp E) (.ref a) y H P := fun H1 e Q q => by
  obtain ⟨⟨dx, q1⟩, _⟩ := i.mono e
  exact ⟨a, rfl, ⟨_, _, q1⟩, k H1 e Q q⟩
theorem rvx_binI {i : Int} (h : IA S H a C fs) (k : SpX K S sp [.ref a, .int i] H E P) : RVX K S (rBinI C sp E) (.ref a) (.int i) H P := fun H1 e Q q => by
  obtain ⟨⟨dx, q1⟩, _⟩ := h.mono e
  exact ⟨a, i, rfl, rfl, ⟨_, _, q1⟩, k H1 e Q q⟩
end
/-! ### a def f(a, b, *c) -/
/-- a def f(a, .., *r) that lets nothing out, by its body: the star arguments' tuple is laid at the call -/
theorem fn_star {P : Program} {w : World} {K : PySem.W.Frag} {mg : Str → Option Value} {base : Heap} {k : Nat} {f : Addr} {name qual : Str} {params : Arguments} {body : List Stmt} {scope : Scope} {dV kV doc pm cdv ct oc : Value} {an od : Option Addr}
    {osl : Array (Option Value)} {N ps0 : List Str} {pv : Str} {nmax : Nat} {sp : Sp} (lk : K.lookup f = some ⟨oc, od, .func (PySem.W.fnOf name qual params body scope dV kV doc pm an cdv ct), osl⟩) (hcd : PySem.W.codeIn K cdv qual = true) (S : FnScope N (ps0 ++ [pv]) scope)
    (hz : nmax ≤ sizeLine) (hb : ∀ (us rest : List Value), us.length = ps0.length → rest.length ≤ nmax → bindArgs (PySem.W.fnOf name qual params body scope dV kV doc pm an cdv ct) ⟨us ++ rest, []⟩ = (newTuple rest >>= fun t => pure ((ps0 ++ [pv]).zip (us ++ [t]))))
    (hbody : ∀ (A : Around) (outer : List Env) (s : Shared) (H : Hp) (vs : List V) (Q : VK) (E : XK), Room k (A.deeper (envOfC qual scope s.heap.objs.size f cdv)) → sp vs H Q E →
      ∃ t, PSs (cxOf CX0 P w K mg base N qual scope f cdv A outer s H E) body t ∧ t { nx := fun _ H' => Q .non H', rt := Q } (start N vs) H) :
    FnR P w K mg base CX0 (k + 1) f (fun vs H Q E => ∃ v0 rest, vs = v0 ++ rest ∧ v0.length = ps0.length ∧ rest.length ≤ nmax ∧ ∀ p, H p = none → sp (v0 ++ [.ref p]) (upd H p (.tup rest)) Q E) := by
  intro A outer s H us vs Q E hr e0 r hsp
  obtain ⟨v0, rest, ev, h0, hl, hq⟩ := hsp
  subst ev
  obtain ⟨u0, ur, eu, rv, rr⟩ : ∃ u0 ur, us = u0 ++ ur ∧ Vals v0 u0 ∧ Vals rest ur := by
    clear hq hl h0
    induction v0 generalizing us with
    | nil => exact ⟨[], us, rfl, .nil, r⟩
    | cons x xs ih =>
      cases r with
      | cons a b =>
        obtain ⟨u0, ur, e, c, d⟩ := ih _ b
        subst e
        exact ⟨_ :: u0, ur, rfl, .cons a c, d⟩
  subst eu
  have hl' : ur.length ≤ nmax := by rw [← rr.length]; exact hl
  have h0' : u0.length = ps0.length := by rw [← rv.length]; exact h0
  have KX : K.In s.heap := e0.mod.kin.keeps fun b o e => (e0.bs b o e).1
  have hn : H s.heap.objs.size = none := e0.hok.fresh (Nat.le_refl _)
  have hp := hq s.heap.objs.size hn
  have kp : ∀ b o, s.heap.get? b = some o → (s.heap.push ({ cls := .type "tuple", data := .seq ur.toArray } : Obj)).get? b = some o := fun b o e => Heap.get?_push_of_some _ e
  have new : ObjOk P w (upd H s.heap.objs.size (.tup rest)) (s.heap.push ({ cls := .type "tuple", data := .seq ur.toArray } : Obj)) s.heap.objs.size (.tup rest) :=
    ⟨Nat.le_trans hl hz, ur, rr, ⟨_, Heap.get?_push_size _ rfl, rfl, _, rfl⟩⟩
  have hok2 := e0.hok.laid kp (Nat.le_refl _) new
  have un : Un (frs outer) [] H (upd H s.heap.objs.size (.tup rest)) s.heap (s.heap.push ({ cls := .type "tuple", data := .seq ur.toArray } : Obj)) := Un.laid kp (Nat.le_refl _) hn
  have e2 : Env0 P w K mg base A outer { s with heap := s.heap.push ({ cls := .type "tuple", data := .seq ur.toArray } : Obj) } (upd H s.heap.objs.size (.tup rest)) := by
    refine ⟨e0.frames, e0.mod, fun b o e => ⟨kp b o (e0.bs b o e).1, ?_⟩, ?_, Heap.FunFrames.of_keeps (fun b o e _ => ⟨o, kp b o e, rfl⟩) e0.funs, fun b hb' => ?_, hok2, e0.bare⟩
    · rw [upd_ne (Nat.ne_of_lt (Heap.lt_size (e0.bs b o e).1))]
      exact (e0.bs b o e).2
    · show base.objs.size ≤ (s.heap.push _).objs.size
      rw [Heap.size_push]
      exact Nat.le_succ_of_le e0.bsz
    · obtain ⟨_, o, ho, _⟩ := e0.funs.mem hb'
      rw [upd_ne (Nat.ne_of_lt (Heap.lt_size ho))]
      exact e0.frf b hb'
  have lim : (s.heap.push ({ cls := .type "tuple", data := .seq ur.toArray } : Obj)).NoLimit := e0.mod.nolimit.keeps fun b o e => (e2.bs b o e).1
  have hkind : ∀ y ∈ (ps0 ++ [pv]).zip (u0 ++ [Value.ref s.heap.objs.size]), scope.names.lookup y.1 = some .local ∨
      (scope.names.lookup y.1 = some .cell ∧ ((cellsFrom ((s.heap.push ({ cls := .type "tuple", data := .seq ur.toArray } : Obj)).objs.size + 1) scope.names []).lookup y.1).isSome = true) := fun y hy => by
    rcases S.par y.1 (List.of_mem_zip hy).1 with q | q
    · exact .inl q
    · exact .inr ⟨q, PySem.W.cellsFrom_some _ _ _ (.inl q)⟩
  refine codeAny_call_function hr.depth (KX _ _ lk) rfl S.co S.gen rfl (PySem.W.codeRec_of KX hcd) ?_
  rw [hb u0 ur h0' hl']
  refine wpAny_bind (wpAny_newTuple (wpAny_pure ?_) (Nat.le_trans hl' hz))
  refine wpAny_newFunctionEnv_cells (s := { s with heap := s.heap.push ({ cls := .type "tuple", data := .seq ur.toArray } : Obj) }) S.kind hkind fun env he s1 x => ?_
  subst he
  refine ⟨lim.keeps x.toInCall.keep, codeAny_func ?_⟩
  obtain ⟨t, ht, hq'⟩ := hbody A outer { s with heap := s.heap.push ({ cls := .type "tuple", data := .seq ur.toArray } : Obj) } (upd H s.heap.objs.size (.tup rest)) (v0 ++ [.ref s.heap.objs.size]) Q E (hr.deeper _) hp
  have r2 : Vals (v0 ++ [V.ref s.heap.objs.size]) (u0 ++ [Value.ref s.heap.objs.size]) := rv.append (.cons rfl .nil)
  have I : Inv (cxOf CX0 P w K mg base N qual scope f cdv A outer { s with heap := s.heap.push ({ cls := .type "tuple", data := .seq ur.toArray } : Obj) } (upd H s.heap.objs.size (.tup rest)) E) [] (start N (v0 ++ [.ref s.heap.objs.size])) (upd H s.heap.objs.size (.tup rest)) s1 :=
    inv_start S hr.hd e2 (by rw [List.length_append, List.length_append, h0]; rfl) r2 x
  refine wpAny_mono (ht.run [] s1 _ _ _ I hq') (fun fl s' hs => ?_) fun e s' hs => ?_
  · have fin : ∀ {σ' : L2.St} {H' : Hp} {v' : V} {u' : Value}, Inv (cxOf CX0 P w K mg base N qual scope f cdv A outer { s with heap := s.heap.push ({ cls := .type "tuple", data := .seq ur.toArray } : Obj) } (upd H s.heap.objs.size (.tup rest)) E) [] σ' H' s' → RelV v' u' → Q v' H' →
        CE outer P w H s Q u' s' := fun {σ' H' v' u'} J rv' q => ⟨v', H', J.os, J.bare, un.trans J.base, J.hok, rv', q⟩
    cases fl with
    | ret u' =>
      obtain ⟨v', σ', H', J, rv', q⟩ := hs
      exact fin J rv' q
    | next =>
      obtain ⟨σ', H', J, q⟩ := hs
      exact fin (v' := V.non) (u' := Value.none) J rfl q
    | brk =>
      obtain ⟨_, _, _, q⟩ := hs
      exact False.elim q
    | cont =>
      obtain ⟨_, _, _, q⟩ := hs
      exact False.elim q
  · exact wpAny_mono hs (fun _ s'' z => z) fun e' s'' z => z
/-- a def with a star parameter keeps a promise, however its object looks -/
def OkV (P : Program) (w : World) (K : PySem.W.Frag) (mg : Str → Option Value) (base : Heap) (k : Nat) (f : Addr) (sp : Sp) : Prop := FnR P w K mg base CX0 k f sp ∧ PySem.W.keepIn K (.ref f) = true
theorem okV {P : Program} {w : World} {K : PySem.W.Frag} {mg : Str → Option Value} {base : Heap} {x qual : Str} {st : Stmt} {f : Addr} {N ps0 : List Str} {pv : Str} {k nmax : Nat} {sp : Sp} (F : FnIs K x qual st f) (S : FnScope N (ps0 ++ [pv]) (defScope st)) (hz : nmax ≤ sizeLine)
    (hb : ∀ (kV doc pm : Value) (an : Option Addr) (cdv ct : Value) (us rest : List Value), us.length = ps0.length → bindArgs (PySem.W.fnOf x qual (defArgs st) (defBody st) (defScope st) .none kV doc pm an cdv ct) ⟨us ++ rest, []⟩ = (newTuple rest >>= fun t => pure ((ps0 ++ [pv]).zip (us ++ [t]))))
    (hbody : ∀ (cdv : Value) (A : Around) (outer : List Env) (s : Shared) (H : Hp) (vs : List V) (Q : VK) (E : XK), Room k (A.deeper (envOfC qual (defScope st) s.heap.objs.size f cdv)) → sp vs H Q E →
      ∃ t, PSs (cxOf CX0 P w K mg base N qual (defScope st) f cdv A outer s H E).nox (defBody st) t ∧ t { nx := fun _ H' => Q .non H', rt := Q } (start N vs) H) :
    OkV P w K mg base (k + 1) f (fun vs H Q E => ∃ v0 rest, vs = v0 ++ rest ∧ v0.length = ps0.length ∧ rest.length ≤ nmax ∧ ∀ p, H p = none → sp (v0 ++ [.ref p]) (upd H p (.tup rest)) Q E) := by
  obtain ⟨fd, F⟩ := F
  obtain ⟨oc, od, dV, kV, doc, pm, an, cdv, ct, osl, e, lk, hcd, hd, _⟩ := F.ex
  have hdn : dV = .none := by
    rcases hd with ⟨_, e2⟩ | ⟨e2, _⟩
    · exact e2
    · exact absurd rfl e2
  subst hdn
  subst e
  exact ⟨fn_star lk hcd S hz (fun us rest h0 _ => hb kV doc pm an cdv ct us rest h0) fun A outer s H vs Q E hr hsp => by
    obtain ⟨t, h, q⟩ := hbody cdv A outer s H vs Q E hr hsp
    exact ⟨t, h.nox, q⟩, F.kp⟩
/-! y in d of a dict with keys that are tuples -/
section
variable {K : PySem.W.Frag} {S : Dst} {σ : L2.St} {H : Hp} {ta tb te : TE} {d b : Addr} {kvs : List (List Key × V)} {ks : List Key} {D : Ends} {tz : TS} {v : V} {P : V → Hp → Prop}
theorem ev_dinT (hy : EvX K S ta σ H fun x H2 => ∃ b, x = .ref b ∧ H2 b = some (.tup (ks.map kV)) ∧ ¬ Sx S b) (hd : Ev K S tb σ H (.ref d)) (e : H d = some (.dT kvs)) (nd : ¬ Sx S d) : Ev K S (tDIn ta tb) σ H (.bl (valV kvs ks).isSome) := fun H1 e1 Q q =>
  hy H1 e1 _ fun x H2 e2 ⟨b, hx, hb, nb⟩ => hd H2 (e1.trans e2) _ fun H3 e3 => by
    subst hx
    have e13 := (e1.trans e2).trans e3
    exact ⟨d, valV kvs ks, rfl, .inr ⟨kvs, ks, b, .inl (e13.1 _ _ nd e), rfl, e3.1 _ _ nb hb, rfl⟩, q H3 (e2.trans e3)⟩
theorem s_dputT (hv : Ev K S te σ H v) (hd : Ev K S tb σ H (.ref d)) (hy : EvX K S ta σ H fun x H2 => ∃ b, x = .ref b ∧ H2 b = some (.tup (ks.map kV)) ∧ ¬ Sx S b) (e : H d = some (.dT kvs)) (nd : ¬ Sx S d) (hl : kvs.length < sizeLine)
    (k : ∀ H1, Lx S H H1 → St K S tz D σ (upd H1 d (.dT (putK kvs ks v)))) : St K S (tSeq (sDPut tb ta te) tz) D σ H := fun H1 e1 => hv H1 e1 _ fun H2 e2 => hd H2 (e1.trans e2) _ fun H3 e3 => hy H3 ((e1.trans e2).trans e3) _ fun x H4 e4 ⟨b, hx, hb, nb⟩ => by
  subst hx
  have e14 := ((e1.trans e2).trans e3).trans e4
  exact ⟨d, _, rfl, .inr ⟨kvs, ks, b, e14.1 _ _ nd e, rfl, hb, hl, rfl⟩, k H4 e14 _ (e14.refl.upd nd)⟩
end
end Fw

namespace Fw
open PySem PySem.Spec PyProof.Rows L2
section
variable {X : Cx} {k : Nat}
theorem inDK (K : PySem.W.Frag) (hK : X.K = K) (hr : Room k X.A) : OpR X (compareOp .In) (rInD K) := by subst hK; exact op_inD (by have := hr.un; omega)
theorem notInDK (K : PySem.W.Frag) (hK : X.K = K) (hr : Room k X.A) : OpR X (compareOp .NotIn) (rNotInD K) := by subst hK; exact op_notInD (by have := hr.un; omega)
variable {CX : CXT} {C g : Addr} {sp : Sp} {E : XK} {x : Str} {e : Expr} {es : List Expr} {t : TA} {pos q : Pos}
theorem pe_makeV (M : Mk X.K C g) (F : OkV X.prog X.w X.K X.mg X.base k g sp) (hr : Room (k + 1) X.A) (hg : Gl X x) (hm : X.mg x = some (.ref C)) (hx : Passes CX0 X E) (ha : PA X (e :: es) t) (hdb : (x == ("__debug__" : Str)) = false := by decide)
    (he : starEach (e :: es) X.env = (false, eval e X.env) :: starEach es X.env := by rfl) (hpl : (backTo pos (starEach es X.env)).any (·.1) = false := by rfl) : PE X (.Call (.Name x q) (e :: es) [] pos) (StX.tMakeR C sp E t) :=
  StX.pe_makeR M F.1 hr hg hm hx ha hdb he hpl
end
section
variable {K : PySem.W.Frag} {S : Dst} {σ : L2.St} {H : Hp} {a C : Addr} {fs : List (Str × V)} {i v x y : V} {sp : Sp} {E : XK} {P : V → Hp → Prop} {ta tb te : TE} {D : Ends} {tz : TS}
/-- o[i] = v of an own class: St goes on from what it left -/
theorem s_setO (hv : Ev K S te σ H v) (ho : Ev K S ta σ H (.ref a)) (hi : Ev K S tb σ H i) (h : IA S H a C fs) (k : ∀ H1, Lx S H H1 → sp [.ref a, i, v] H1 (fun _ H2 => tz D σ H2) E) : St K S (tSeq (tAsg te (gSub ta tb (sSetO C sp E))) tz) D σ H := fun H1 e =>
  hv H1 e _ fun H2 e2 => ho H2 (e.trans e2) _ fun H3 e3 => hi H3 ((e.trans e2).trans e3) _ fun H4 e4 => by
    have e5 := ((e.trans e2).trans e3).trans e4
    obtain ⟨⟨dx, q⟩, _⟩ := h.mono e5
    exact ⟨a, rfl, ⟨_, _, q⟩, k H4 e5⟩
theorem rv_inD {d : PyData} {ds : List PyData} (hx : ∀ H1, Lx S H H1 → Dp K H1 x d) (hy : ∀ H1, Lx S H H1 → Dp K H1 y (.list ds)) (s1 : SeqAt.shaped d = true) (s2 : SeqAt.shaped (.list ds) = true) : RV K S (rInD K) x y H (.bl (ds.any fun z => PyData.eqv z d)) := fun H1 e _ q => ⟨d, ds, hx H1 e, hy H1 e, s1, s2, q H1 e.refl⟩
theorem rv_notInD {d : PyData} {ds : List PyData} (hx : ∀ H1, Lx S H H1 → Dp K H1 x d) (hy : ∀ H1, Lx S H H1 → Dp K H1 y (.list ds)) (s1 : SeqAt.shaped d = true) (s2 : SeqAt.shaped (.list ds) = true) : RV K S (rNotInD K) x y H (.bl (!ds.any fun z => PyData.eqv z d)) := fun H1 e _ q => ⟨d, ds, hx H1 e, hy H1 e, s1, s2, q H1 e.refl⟩
theorem rvx_rep {l : Addr} {k : Int} {xs : List V} (hl : H l = some (.lst xs)) (nl : ¬ Sx S l) (h0 : -(2 ^ 63) ≤ k) (h1 : k < 2 ^ 63) (hz : xs.length * k.toNat ≤ sizeLine) : RVX K S rRep (.ref l) (.int k) H (NewL S H (List.replicate k.toNat xs).flatten) := fun H1 e Q q =>
  ⟨l, k, xs, rfl, rfl, e.1 _ _ nl hl, h0, h1, hz, fun p hp => q _ _ (e.new hp) ⟨p, rfl, e.fresh hp, e.ns hp, upd_same⟩⟩

theorem s_dputT1 {d : Addr} {kvs : List (List Key × V)} {ks : List Key} (hv : Ev K S te σ H v) (hd : Ev K S tb σ H (.ref d)) (hy : EvX K S ta σ H fun x H2 => ∃ b, x = .ref b ∧ H2 b = some (.tup (ks.map kV)) ∧ ¬ Sx S b) (e : H d = some (.dT kvs)) (nd : ¬ Sx S d) (hl : kvs.length < sizeLine)
    (k : ∀ H1, Lx S H H1 → ∀ H2, Lx S (upd H1 d (.dT (putK kvs ks v))) H2 → D.nx σ H2) : St K S (sDPut tb ta te) D σ H := fun H1 e1 => hv H1 e1 _ fun H2 e2 => hd H2 (e1.trans e2) _ fun H3 e3 => hy H3 ((e1.trans e2).trans e3) _ fun x H4 e4 ⟨b, hx, hb, nb⟩ => by
  subst hx
  have e14 := ((e1.trans e2).trans e3).trans e4
  exact ⟨d, _, rfl, .inr ⟨kvs, ks, b, e14.1 _ _ nd e, rfl, hb, hl, rfl⟩, k H4 e14 _ (e14.refl.upd nd)⟩
end
end Fw
namespace Fw
theorem un1 {a c : Nat} (h : a + 64 < c) : a + 1 < c := by omega
end Fw

namespace Fw
open PySem PySem.Spec PyProof.Rows L2
section
variable {K : PySem.W.Frag} {S : Dst} {σ : L2.St} {H : Hp} {tl te : TE} {t : TT} {g : TG} {ws : List Nat} {P P' : V → Hp → Prop}
/-- a comprehension over what has to be made first -/
theorem ex_lcX (h : EvX K S tl σ H P') (k : ∀ v H1, Lx S H H1 → P' v H1 → EvX K S (tLc (iList K (tC v)) g t te ws) σ H1 P) : EvX K S (tLc (iList K tl) g t te ws) σ H P := fun H0 e Q q => h H0 e _ fun v H1 e1 p =>
  k v H1 (e.trans e1) p H1 (e.trans e1).refl Q fun w H2 e2 pp => q w H2 (e1.trans e2) pp
theorem IA.updI {a x C C' dx : Addr} {fs fs' : List (Str × V)} {o : HO} (hx : H x = some (.ins C dx fs)) (ne : fs' ≠ fs) (h : IA S H a C' fs') : IA S (upd H x o) a C' fs' := by
  obtain ⟨⟨dy, q⟩, n⟩ := h
  refine ⟨⟨dy, ?_⟩, n⟩
  rw [upd_ne (fun z => by
    subst z
    rw [hx] at q
    injection q with q
    injection q with _ _ q
    exact ne q.symm)]
  exact q
end
end Fw
namespace Fw
open PySem PySem.Spec PyProof.Rows L2
section
variable {K : PySem.W.Frag} {S : Dst} {σ : L2.St} {H : Hp} {ta tb te : TE} {D : Ends} {tz : TS} {v : V} {l : Addr} {xs : List V} {i : Int}
/-- l.insert(i, v), the last statement -/
theorem s_insert1 (hl : H l = some (.lst xs)) (ns : ¬ Sx S l) (ho : Ev K S ta σ H (.ref l)) (hi : Ev K S tb σ H (.int i)) (hv : Ev K S te σ H v) (hz : xs.length < sizeLine) (h0 : 0 ≤ i) (h1 : i < 2 ^ 63) (k : ∀ H1, Lx S (upd H l (.lst (xs.take i.toNat ++ [v] ++ xs.drop i.toNat))) H1 → D.nx σ H1) :
    St K S (tDrop (tBM K "list" (fun x vs H Q => ∃ (l : Addr) (xs : List V) (i : Int) (y : V), x = .ref l ∧ vs = [.int i, y] ∧ H l = some (.lst xs) ∧ xs.length < sizeLine ∧ 0 ≤ i ∧ i < 2 ^ 63 ∧ Q .non (upd H l (.lst (xs.take i.toNat ++ [y] ++ xs.drop i.toNat)))) ta (tCons tb (tCons te tNil)))) D σ H := fun H1 e => ho H1 e _ fun H2 e2 =>
  ⟨.inl ⟨rfl, _, SqL.of ((e.trans e2).1 l _ ns hl)⟩, hi H2 (e.trans e2) _ fun H3 e3 => hv H3 ((e.trans e2).trans e3) _ fun H4 e4 =>
    have e5 := ((e.trans e2).trans e3).trans e4
    ⟨l, xs, i, v, rfl, rfl, e5.1 l _ ns hl, hz, h0, h1, k _ (e5.upd ns)⟩⟩
end
end Fw
namespace Fw
open PySem PySem.Spec PyProof.Rows L2
section
variable {K : PySem.W.Frag} {S : Dst} {σ : L2.St} {H : Hp} {ta : TE} {tas : TA} {D : Ends} {tz : TS} {a C : Addr} {fs : List (Str × V)} {m : Str} {sp : Sp} {E : XK} {PA : List V → Hp → Prop}
/-- o.m(..) as a statement, what it does told by its promise -/
theorem s_meth1 (ho : Ev K S ta σ H (.ref a)) (ia : IA S H a C fs) (l : fs.lookup m = none) (h : EvAX K S tas σ H PA) (k : ∀ vs H1, Lx S H H1 → PA vs H1 → sp (.ref a :: vs) H1 (fun _ H2 => D.nx σ H2) E) : St K S (tDrop (tMethR C m sp E ta tas)) D σ H := fun H1 e => ho H1 e _ fun H2 e2 => by
  obtain ⟨⟨dx, q2⟩, _⟩ := ia.mono (e.trans e2)
  exact ⟨a, dx, fs, rfl, q2, l, h H2 (e.trans e2) _ fun vs H3 e3 pa => k vs H3 ((e.trans e2).trans e3) pa⟩
theorem s_meth (ho : Ev K S ta σ H (.ref a)) (ia : IA S H a C fs) (l : fs.lookup m = none) (h : EvAX K S tas σ H PA) (k : ∀ vs H1, Lx S H H1 → PA vs H1 → sp (.ref a :: vs) H1 (fun _ H2 => tz D σ H2) E) : St K S (tSeq (tDrop (tMethR C m sp E ta tas)) tz) D σ H := fun H1 e => ho H1 e _ fun H2 e2 => by
  obtain ⟨⟨dx, q2⟩, _⟩ := ia.mono (e.trans e2)
  exact ⟨a, dx, fs, rfl, q2, l, h H2 (e.trans e2) _ fun vs H3 e3 pa => k vs H3 ((e.trans e2).trans e3) pa⟩
end
end Fw
namespace Fw
open PySem PySem.Spec PyProof.Rows L2
theorem pg_tupK {X : Cx} (K : PySem.W.Frag) (hK : X.K = K) {es : List Expr} {k : Nat} {t : TGs} {n : Nat} {pos : Pos} (hc : X.calm = true) (h : PGs X es t) (hn : (assignEach es X.env).length = n := by rfl) (hst : (assignEach es X.env).findIdx? (·.1) = none := by rfl) : PG X (.Tuple es k pos) (gTup K n t) := by
  subst hK
  exact pg_tup hc h hn hst
end Fw
namespace Fw
open PySem PySem.Spec PyProof.Rows L2
/-- a, b = a pair -/
theorem s_asgT2 {K : PySem.W.Frag} {S : Dst} {σ : L2.St} {H : Hp} {te : TE} {P : V → Hp → Prop} {D : Ends} {tz : TS} {i j : Nat} (h : EvX K S te σ H P) (k : ∀ v H1, Lx S H H1 → P v H1 → ∃ p x y, v = .ref p ∧ SqT K H1 p [x, y] ∧ St K S tz D ((σ.set i (some x)).set j (some y)) H1) :
    St K S (tSeq (tAsg te (gTup K 2 (gCons (gName i) (gCons (gName j) gNil)))) tz) D σ H := fun H1 e => h H1 e _ fun v H2 e2 p => by
  obtain ⟨q, x, y, rfl, hs, st⟩ := k v H2 (e.trans e2) p
  exact ⟨q, [x, y], rfl, hs, rfl, x, [y], rfl, y, [], rfl, rfl, st H2 (e.trans e2).refl⟩
end Fw
namespace Fw
open PySem PySem.Spec PyProof.Rows L2
/-- l[:n] -/
theorem ex_slTo {K : PySem.W.Frag} {S : Dst} {σ : L2.St} {H : Hp} {ta tb : TE} {p : Addr} {xs : List V} {n : Int} (h : Ev K S ta σ H (.ref p)) (hx : LA K S H p xs) (hn : Ev K S tb σ H (.int n)) : EvX K S (tSl (rSlL K) ta tNoPart (tPart tb)) σ H (NewL S H (cutV xs none (some n))) := fun H1 e Q q =>
  h H1 e _ fun H2 e2 => hn H2 (e.trans e2) _ fun H3 e3 => ⟨n, rfl, p, xs, rfl, (hx.mono ((e.trans e2).trans e3)).q, fun r hr => q _ _ ((e2.trans e3).trans ((e.trans e2).trans e3 |>.new hr)) ⟨r, rfl, ((e.trans e2).trans e3).fresh hr, ((e.trans e2).trans e3).ns hr, upd_same⟩⟩
end Fw

namespace Fw
open PySem PySem.Spec PyProof.Rows L2 NdefX
/-! ### super().__init__(..) in a method of an own class -/
/-- a method of the class at D that names super: its object at f, its code, its cell -/
structure SupM (P : Program) (K : PySem.W.Frag) (D f cda cc : Addr) (fd : FuncData) (name qual : Str) (params : Arguments) (body : List Stmt) (scope : Scope) : Prop where
  at_ : ∃ oc od osl, K.lookup f = some ⟨oc, od, .func fd, osl⟩
  e : ∃ doc pm an ct, fd = PySem.W.fnX name qual params body scope [("__class__", cc)] .none .none doc pm an (.ref cda) ct
  hcd : PySem.W.codeIn K (.ref cda) qual = true
  hcode : ∃ ccl cdd vs ccs file tf, K.lookup cda = some ⟨ccl, cdd, .fields vs, ccs⟩ ∧ vs[2]? = some (.str file tf) ∧ ((P.main.file : Str) == file) = true
  hcell : ∃ cl cld csl, K.lookup cc = some ⟨cl, cld, .cell (some (.ref D)), csl⟩
  hD : (PySem.W.clsIn K D).isSome = true
  kp : PySem.W.keepIn K (.ref f) = true
/-- its words, as HandS.Nested has them -/
abbrev supF (name qual : Str) (params : Arguments) (body : List Stmt) (scope : Scope) (cda cc : Addr) : NF := ⟨name, qual, params, body, scope, [("__class__", cc)], cda⟩
/-- the class C of self: under D, plain in what it lets be set -/
structure SupC (K : PySem.W.Frag) (C D : Addr) (tgt : Value) : Prop where
  ox : OexC K C
  sub : PySem.W.mroIn K C (.ref D) = some true
  cl : (PySem.W.clsIn K C).isSome = true
  su : PySem.W.ks_superIn K C D "__init__" = some (some tgt)
  ve : PySem.W.subIn K (.ref C) (.type "ValueError") = some true
section
variable {CX : CXT} {P : Program} {w : World} {K : PySem.W.Frag} {mg : Str → Option Value} {base : Heap} {N : List Str} {f D C cda cc x : Addr} {fd : FuncData} {name qual : Str} {params : Arguments} {body : List Stmt} {scope : Scope} {A : Around} {outer : List Env} {s0 : Shared} {H0 : Hp} {EE : XK}
  {pins : List (Addr × Obj)} {σ : L2.St} {H : Hp} {s : Shared}
/-- what is seen of self -/
theorem exo_inst {X : Cx} (I : Inv X pins σ H s) (he : H x = some (exo x C none)) : ∃ t1, s.heap.get? x = some ({ cls := .ref C, dict := none, data := .fields #[.ref t1, .none, .none, .none, .bool false, .none] } : Obj) := exo_at I.hok he
/-- super() in the head of an attribute -/
theorem sup_base {whole : Sem Value} {p0 p1 : Pos} {ar : Arg} {E' : Value → Shared → Prop} {Q : Value → Shared → Prop} (M : SupM P K D f cda cc fd name qual params body scope)
    (I : Inv (ncx CX P w K mg base N (supF name qual params body scope cda cc) f A outer s0 H0 EE) pins σ H s) (hk : scope.kind = .function) (har : (params.posonlyargs ++ params.args).head? = some ar) (hN : N[0]? = some ar.arg)
    (h0 : σ[0]? = some (some (.ref x))) (hka : scope.names.lookup ar.arg = some .local) (hks : scope.names.lookup ("super" : Str) = some .globalImplicit) (hkc : scope.names.lookup ("__class__" : Str) = some .free) (hsm : mg ("super" : Str) = none)
    (htop : (P.main.scope.names.lookup ("super" : Str)).isSome = false) (he : H x = some (exo x C none)) {tgt : Value} (sc : SupC K C D tgt)
    (h : ∀ h', h'.get? s.heap.objs.size = some (PySem.W.ks_superObj D x C) → (∀ y o, s.heap.get? y = some o → h'.get? y = some o) → Q (.ref s.heap.objs.size) { s with heap := h' }) :
    _root_.PySem.wpAt (model P w) (A.deeper (envF (supF name qual params body scope cda cc) f s0.heap.objs.size)) (.func body (envF (supF name qual params body scope cda cc) f s0.heap.objs.size))
      (attributeBase (.Call (.Name "super" p0) [] [] p1) "__init__" (envF (supF name qual params body scope cda cc) f s0.heap.objs.size) whole) Q E' s := by
  obtain ⟨oc, od, osl, hf⟩ := M.at_
  obtain ⟨doc, pm, an, ct, rfl⟩ := M.e
  obtain ⟨ccl, cdd, vs, ccs, file, tf, hco, hvs, hfile⟩ := M.hcode
  obtain ⟨cl, cld, csl, hcl⟩ := M.hcell
  obtain ⟨cdD, hcD⟩ := Option.isSome_iff_exists.mp M.hD
  have XK : K.In s.heap := I.kIn
  obtain ⟨t1, hx⟩ := exo_inst I he
  obtain ⟨mL, hns, hl⟩ := I.loc
  obtain ⟨u, ru, lu⟩ := hl 0 ar.arg (.ref x) hN h0 (.inl hka)
  have eu : u = Value.ref x := ru
  subst eu
  have hm : mL ar.arg = some (Value.ref x) := by
    rcases lu with ⟨_, z⟩ | ⟨z, _⟩
    · exact z
    · have z : scope.names.lookup ar.arg = some .cell ∨ scope.names.lookup ar.arg = some .free := z
      rw [hka] at z
      rcases z with z | z <;> cases z
  obtain ⟨oD, hD1, hD2⟩ : ∃ oD, s.heap.get? D = some oD ∧ oD.data = .cls cdD := by
    unfold PySem.W.clsIn at hcD
    split at hcD
    · rename_i ho
      cases hcD
      exact ⟨_, XK _ _ ho, rfl⟩
    · cases hcD
  refine PySem.ks_wpAt_super_base (env := envF (supF name qual params body scope cda cc) f s0.heap.objs.size) hks hkc (by decide) rfl (XK _ _ hf) rfl har rfl (XK _ _ hco) rfl hvs hfile htop ?_
  obtain ⟨mb, b1, b2⟩ := I.mod.blt
  refine PySem.W.ks_loadName_global hk hks (Calls.loadGlobal_builtin (I.mod.glob.keeps I.bk) hsm (b1.keeps I.bk) ((b2 "super" (by decide)).trans Boot.«super») ⟨rfl, ?_⟩)
  refine wpAny_loadName_free hk hkc rfl ⟨_, XK _ _ hcl, rfl⟩ ?_
  refine wpAny_loadName_local hk hka hns hm ?_
  obtain ⟨hh, g, d, t, os⟩ := s
  refine PySem.ks_wpAny_isType_cls hD1 hD2 ⟨rfl, ?_⟩
  exact PySem.ks_wpAny_call_super hD1 hD2 hx rfl (fun c z => by cases z) (PySem.W.looks_mroIn XK sc.sub) fun h' e k => h h' e k
end
section
variable {X : Cx} {pins : List (Addr × Obj)} {σ : L2.St} {H : Hp} {s : Shared} {x C D f2 so q : Addr} {E : Value → Shared → Prop} {A : Around}
/-- a new object, kept in sight -/
theorem Inv.pinNew {o : Obj} {t' : Nat} (I : Inv X [] σ H s) (hd : ∀ v, o.data ≠ .cell v) (hx : X.pn = []) (hg : (s.heap.push o).get? s.heap.objs.size = some o) : Inv X [(s.heap.objs.size, o)] σ H { s with heap := s.heap.push o, toks := t' } := by
  have J := I.kept (h' := s.heap.push o) (t' := t') fun b u e => Heap.get?_push_of_some _ e
  refine ⟨J.ok, J.os, J.bare, J.base, J.loc, J.cell, J.free, J.freeC, fun p hp => ?_, J.hok, J.len⟩
  rw [hx, List.nil_append, List.mem_singleton] at hp
  subst hp
  exact ⟨hg, I.hok.fresh (Nat.le_refl _), fun z => absurd I.lt (by rw [← z]; exact Nat.lt_irrefl _), I.nofs (Nat.le_refl _), hd⟩
theorem Inv.unpinned {pins : List (Addr × Obj)} (I : Inv X pins σ H s) (hx : X.pn = []) : Inv X [] σ H s :=
  ⟨I.ok, I.os, I.bare, I.base, I.loc, I.cell, I.free, I.freeC, fun p hp => (by rw [hx] at hp; cases hp), I.hok, I.len⟩
theorem cls_ne {K : PySem.W.Frag} (XK : K.In s.heap) {fv : Array Value} {d : Option Addr} (hx : s.heap.get? x = some ({ cls := .ref C, dict := d, data := .fields fv } : Obj)) (hc : (PySem.W.clsIn K C).isSome = true) : x ≠ C := by
  rintro rfl
  obtain ⟨cd, hc⟩ := Option.isSome_iff_exists.mp hc
  unfold PySem.W.clsIn at hc
  split at hc
  · rename_i ho
    have z := XK _ _ ho
    rw [hx] at z
    cases z
  · cases hc
/-- super().m, m an own function -/
theorem sup_get {K : PySem.W.Frag} {P : Program} {w : World} {name : Str} {pl : Sem Bool} {Q : Value × List Value → Shared → Prop} (XK : K.In s.heap) (hso : s.heap.get? so = some (PySem.W.ks_superObj D x C)) (ho : PySem.W.nsIn K cStatics "thirdparty.any" = some none)
    (hm : PySem.W.ks_superIn K C D name = some (some (.ref f2))) (ht : PySem.W.typeIn K (.ref f2) = some (.type "function")) (ne : x ≠ C) (hn : (name == ("__class__" : Str)) = false)
    (hq : Q (.ref s.heap.objs.size, []) { s with heap := s.heap.push (PySem.W.methodObj (.ref f2) (.ref x)), toks := s.toks + 1 }) : wpAny (model P w) A (getMethod (.ref so) name pl) Q E s := by
  obtain ⟨hh, g, d, t, os⟩ := s
  cases hc : PySem.W.clsIn K C with
  | none =>
    unfold PySem.W.ks_superIn at hm
    rw [hc] at hm
    cases hm
  | some cd =>
    unfold PySem.W.ks_superIn at hm
    rw [hc] at hm
    have ht' : (K.lookup f2).map (·.cls) = some (.type "function") := ht
    cases z : K.lookup f2 with
    | none => rw [z] at ht'; cases ht'
    | some of =>
      rw [z] at ht'
      exact PySem.ks_wpAny_getMethod_super hso (PySem.W.looks_opaque XK ho) (l₀ := cd.mro) (fun A Q E s k q => wpAny_bind ((PySem.W.looks_clsIn XK hc) A _ E s k (wpAny_pure q))) rfl XK hm (XK _ _ z) (Option.some.inj ht') ne hn hq
/-- super().m, m a built-in __init__ -/
theorem sup_getB {K : PySem.W.Frag} {P : Program} {w : World} {B i : String} {name : Str} {pl : Sem Bool} {Q : Value × List Value → Shared → Prop} (KF : PySem.W.KxsFacts B i) (XK : K.In s.heap) (hso : s.heap.get? so = some (PySem.W.ks_superObj D x C)) (ho : PySem.W.nsIn K cStatics "thirdparty.any" = some none)
    (hm : PySem.W.ks_superIn K C D name = some (some (.builtin i))) {ox : Obj} {odx : Option Obj} (I : PySem.W.InstAt s.heap x ox C odx) (hB : PySem.W.subIn K (.ref C) (.type B) = some true) (ne : x ≠ C) (hn : (name == ("__class__" : Str)) = false)
    (hq : Q (.ref s.heap.objs.size, []) { s with heap := s.heap.push (PySem.W.kxs_mw i x), toks := s.toks + 1 }) : wpAny (model P w) A (getMethod (.ref so) name pl) Q E s := by
  have hI : PySem.W.Looks (model P w) s.heap (isInstance (.ref x) (.type B)) true := I.type.andThen (PySem.W.looks_subIn XK hB)
  obtain ⟨hh, g, d, t, os⟩ := s
  cases hc : PySem.W.clsIn K C with
  | none =>
    unfold PySem.W.ks_superIn at hm
    rw [hc] at hm
    cases hm
  | some cd =>
    unfold PySem.W.ks_superIn at hm
    rw [hc] at hm
    exact PySem.W.kxs_getMethod KF hso (PySem.W.looks_opaque XK ho) (l₀ := cd.mro) (fun A Q E s k q => wpAny_bind ((PySem.W.looks_clsIn XK hc) A _ E s k (wpAny_pure q))) rfl XK hm hI ne hn hq
/-- the wrapper of ValueError.__init__, called -/
theorem mw_call {X : Cx} {u : Addr} {us : List Value} {Q : Value → Shared → Prop} (T : OexC X.K C) (I : Inv X pins σ H s) (e : H x = some (exo x C none)) (hu : s.heap.get? u = some (PySem.W.kxs_mw "ValueError.__init__" x)) (hl : us.length ≤ sizeLine) (h : ∀ s', Inv X pins σ H s' → Q .none s') :
    wpAny (model X.prog X.w) A (call (.ref u) us) Q E s := by
  obtain ⟨nm, q, N, bs, bm, sn, sub, ab, col, dd, k0, k1, k2, k3, k5, hC, hbm⟩ := T.cls
  obtain ⟨t1, ho⟩ := exo_at I.hok e
  obtain ⟨hp, g, d, t, os⟩ := s
  refine wpAny_call (codeAny_of_tree ?_)
  show wpAny _ A.in1 (callAny (.ref u) ⟨us, []⟩) _ _ _
  simp only [callAny]
  refine wpAny_bind (wpAny_load hu ?_)
  simp only [PySem.W.kxs_mw, show (Value.type "method-wrapper" == Value.type "method" || Value.type "method-wrapper" == Value.type "builtin_function_or_method" || Value.type "method-wrapper" == Value.type "method-wrapper") = true by decide, if_true]
  refine PySem.W.KFB.if_so (by decide) ?_
  refine wpAny_bind (PySem.W.check_bound_init PySem.F.excBase_ValueError.toExcCallFacts (I.kIn _ _ hC) ho rfl ?_)
  refine wpAny_bind (wpAny_pure (wpAny_pure ⟨Code.quiet_builtin _ (by decide +kernel), codeAny_builtin PySem.F.excBase_ValueError.initEntry ?_⟩))
  refine PySem.W.exc_init_tree (cls := .ref C) (t0 := t1) (dv := none) (c2 := .none) (c3 := .none) (b4 := .bool false) ho hl fun h' k hx _ => ?_
  have J := I.write (t' := t) (x := x) (e := x) (o := exo x C none) (by rw [e]; exact True.intro) (.inl rfl) k ⟨_, hx⟩ (exo_ok hx)
  have eu : upd H x (exo x C none) = H := by
    funext b
    by_cases hb : b = x
    · rw [hb, upd_same, e]
    · rw [upd_ne hb]
  rw [eu] at J
  exact h _ J
end
/-- what super().__init__(arg) does -/
def Tgt (X : Cx) (D : Addr) (tgt : Value) (arg : Expr) (cp : Pos) (TG : Addr → Addr → List V → Hp → (Hp → Prop) → Prop) : Prop :=
  ∀ (pl : Sem Bool) (σ : L2.St) (H : Hp) (s : Shared) (so x C : Addr) (ta : TA) (R : Hp → Prop), Inv X [] σ H s → s.heap.get? so = some (PySem.W.ks_superObj D x C) → H x = some (exo x C none) → SupC X.K C D tgt → PA X [arg] ta → ta σ H (fun ws H1 => TG x C ws H1 R) →
    wpAny (model X.prog X.w) X.A (getMethod (.ref so) "__init__" pl) (fun fx s2 => wpAny (model X.prog X.w) X.A (callWith cp fx.1 fx.2 (backTo cp (starEach [arg] X.env)) []) (fun _ s' => ∃ H2, Inv X [] σ H2 s' ∧ R H2) X.xe s2) X.xe s
section
variable {X : Cx} {D f2 : Addr} {arg : Expr} {cp : Pos} {k : Nat} {sp2 : Sp}
theorem tgt_own (hx : X.pn = []) (ho : PySem.W.nsIn X.K cStatics "thirdparty.any" = some none) (ht : PySem.W.typeIn X.K (.ref f2) = some (.type "function")) (hf : PySem.W.fnIn X.K f2 = true) (hr : Room k X.A) (F2 : FnR X.prog X.w X.K X.mg X.base CX0 k f2 sp2)
    (he : starEach [arg] X.env = (false, eval arg X.env) :: starEach [] X.env := by rfl) : Tgt X D (.ref f2) arg cp (fun x C ws H1 R => sp2 (.ref x :: ws) H1 (fun _ H2 => R H2) E0) := by
  intro pl σ H s so x C ta R I hso hxo sc ha q
  obtain ⟨t1, hxe⟩ := exo_at I.hok hxo
  refine sup_get I.kIn hso ho sc.su ht (cls_ne I.kIn hxe sc.cl) (by decide) ?_
  have I1 : Inv X [(s.heap.objs.size, PySem.W.methodObj (.ref f2) (.ref x))] σ H { s with heap := s.heap.push (PySem.W.methodObj (.ref f2) (.ref x)), toks := s.toks + 1 } := Inv.pinNew I (fun v z => by cases z) hx (Heap.get?_push_size _ rfl)
  show wpAny _ _ (callWith cp (.ref s.heap.objs.size) [] (backTo cp (starEach [arg] X.env)) []) _ _ _
  have hr1 := ha.run cp _ _ σ H _ I1 q
  rw [he] at hr1 ⊢
  refine PySem.W.callWith_of (P := PySem.W.MethP X.K s.heap.objs.size f2 (.ref x)) rfl (PySem.W.keeps_M hf) (Calls.evalArgs_plain (thn hr1 fun us s1 hh => ?_))
  obtain ⟨vs, H1, I2, r, q2⟩ := hh
  obtain ⟨hq, _⟩ := I2.pin (s.heap.objs.size, PySem.W.methodObj (.ref f2) (.ref x)) (by rw [hx]; simp)
  refine ⟨⟨hq, I2.kIn⟩, ?_⟩
  have I3 := Inv.unpinned I2 hx
  refine wpAny_call (PySem.W.method_call hq ?_)
  have z := run_fnR (us := .ref x :: us) (vs := .ref x :: vs) F2 hr (pass0 (X := X)) I3 (.cons rfl r) q2
  refine codeAny_mono z fun r s' hq => ?_
  cases r with
  | error e => exact hq
  | ok fl =>
    cases fl with
    | ret u =>
      obtain ⟨v, H', J, _, rr⟩ := hq
      exact ⟨H', J, rr⟩
    | next => exact hq.elim
    | brk => exact hq.elim
    | cont => exact hq.elim
theorem tgt_val (hx : X.pn = []) (ho : PySem.W.nsIn X.K cStatics "thirdparty.any" = some none)
    (he : starEach [arg] X.env = (false, eval arg X.env) :: starEach [] X.env := by rfl) : Tgt X D (.builtin "ValueError.__init__") arg cp (fun x C ws H1 R => ws.length ≤ 1000 ∧ H1 x = some (exo x C none) ∧ R H1) := by
  intro pl σ H s so x C ta R I hso hxo sc ha q
  obtain ⟨t1, hxe⟩ := exo_at I.hok hxo
  refine sup_getB PySem.W.kxs_ValueError I.kIn hso ho sc.su (⟨hxe, rfl, rfl, trivial⟩ : PySem.W.InstAt s.heap x _ C none) sc.ve (cls_ne I.kIn hxe sc.cl) (by decide) ?_
  have I1 : Inv X [(s.heap.objs.size, PySem.W.kxs_mw "ValueError.__init__" x)] σ H { s with heap := s.heap.push (PySem.W.kxs_mw "ValueError.__init__" x), toks := s.toks + 1 } := Inv.pinNew I (fun v z => by cases z) hx (Heap.get?_push_size _ rfl)
  show wpAny _ _ (callWith cp (.ref s.heap.objs.size) [] (backTo cp (starEach [arg] X.env)) []) _ _ _
  have hr1 := ha.run cp _ _ σ H _ I1 q
  rw [he] at hr1 ⊢
  refine PySem.W.kxs_callWith (i := "ValueError.__init__") (x := x) rfl (Calls.evalArgs_plain (thn hr1 fun us s1 hh => ?_))
  obtain ⟨vs, H1, I2, r, hl, hxo2, q2⟩ := hh
  obtain ⟨hq, _⟩ := I2.pin (s.heap.objs.size, PySem.W.kxs_mw "ValueError.__init__" x) (by rw [hx]; simp)
  refine ⟨hq, ?_⟩
  exact mw_call sc.ox (Inv.unpinned I2 hx) hxo2 hq (by show us.length ≤ sizeLine; rw [← Paired.length r, sizeLine_eq]; omega) fun s' J => ⟨H1, J, q2⟩
end
abbrev supSt (p0 p1 ap cp ep : Pos) (arg : Expr) : Stmt := .Expr (.Call (.Attribute (.Call (.Name "super" p0) [] [] p1) "__init__" ap) [arg] [] cp) ep
abbrev supG (name qual : Str) (params : Arguments) (p0 p1 ap cp ep : Pos) (arg : Expr) (rest : List Stmt) (scope : Scope) (cda cc : Addr) : NF := supF name qual params (supSt p0 p1 ap cp ep arg :: rest) scope cda cc
section
variable {P : Program} {w : World} {K : PySem.W.Frag} {mg : Str → Option Value} {base : Heap} {N ps : List Str} {f D cda cc : Addr} {fd : FuncData} {name qual : Str} {params : Arguments} {rest : List Stmt} {scope : Scope} {arg : Expr} {p0 p1 ap cp ep : Pos} {k : Nat} {sp : Sp} {tgt : Value}
  {TG : Addr → Addr → List V → Hp → (Hp → Prop) → Prop} {ar : Arg}
theorem fn_sup (M : SupM P K D f cda cc fd name qual params (supSt p0 p1 ap cp ep arg :: rest) scope)
    (S : NScope N ps ["__class__"] scope) (har : (params.posonlyargs ++ params.args).head? = some ar) (hN : N[0]? = some ar.arg) (hka : scope.names.lookup ar.arg = some .local) (hks : scope.names.lookup ("super" : Str) = some .globalImplicit)
    (hsm : mg ("super" : Str) = none) (htop : (P.main.scope.names.lookup ("super" : Str)).isSome = false) (len : ∀ vs H Q E, sp vs H Q E → vs.length = ps.length)
    (hev : ∀ (A : Around) (outer : List Env) (s : Shared), ∃ pl : Sem Bool, eval (.Call (.Attribute (.Call (.Name "super" p0) [] [] p1) "__init__" ap) [arg] [] cp) (envF (supG name qual params p0 p1 ap cp ep arg rest scope cda cc) f s.heap.objs.size) = (do
      let ov ← attributeBase (.Call (.Name "super" p0) [] [] p1) "__init__" (envF (supG name qual params p0 p1 ap cp ep arg rest scope cda cc) f s.heap.objs.size) (eval (.Call (.Name "super" p0) [] [] p1) (envF (supG name qual params p0 p1 ap cp ep arg rest scope cda cc) f s.heap.objs.size))
      standAt ap.atName
      let (fx, first) ← holding [ov] (getMethod ov "__init__" pl)
      callWith cp fx first (backTo cp (starEach [arg] (envF (supG name qual params p0 p1 ap cp ep arg rest scope cda cc) f s.heap.objs.size))) []))
    (hin : ∀ L, interactive (envF (supG name qual params p0 p1 ap cp ep arg rest scope cda cc) f L) = false)
    (hsw : ∀ L, swapsWith (.Call (.Attribute (.Call (.Name "super" p0) [] [] p1) "__init__" ap) [arg] [] cp) none ep.line (envF (supG name qual params p0 p1 ap cp ep arg rest scope cda cc) f L) = pure false)
    (hbody : ∀ (A : Around) (outer : List Env) (s : Shared) (H : Hp) (vs : List V) (Q : VK) (E : XK), Room k (A.deeper (envF (supG name qual params p0 p1 ap cp ep arg rest scope cda cc) f s.heap.objs.size)) → sp vs H Q E →
      ∃ (x C : Addr) (ta : TA) (tr : TS), vs[0]? = some (.ref x) ∧ H x = some (exo x C none) ∧ SupC K C D tgt ∧ PA (ncx CX0 P w K mg base N (supG name qual params p0 p1 ap cp ep arg rest scope cda cc) f A outer s H E) [arg] ta ∧
        PSs (ncx CX0 P w K mg base N (supG name qual params p0 p1 ap cp ep arg rest scope cda cc) f A outer s H E) rest tr ∧
        Tgt (ncx CX0 P w K mg base N (supG name qual params p0 p1 ap cp ep arg rest scope cda cc) f A outer s H E) D tgt arg cp TG ∧
        ta (startF N vs [none]) H fun ws H1 => TG x C ws H1 fun H2 => tr { nx := fun _ H' => Q .non H', rt := Q } (startF N vs [none]) H2) : FnOk P w K mg base CX0 (k + 1) f fd ps sp := by
  refine ⟨len, fun A outer s H args us vs Q E hr e0 hb r hsp => ?_⟩
  have hl := len _ _ _ _ hsp
  have KX : K.In s.heap := e0.mod.kin.keeps fun b o e => (e0.bs b o e).1
  have lim : s.heap.NoLimit := e0.mod.nolimit.keeps fun b o e => (e0.bs b o e).1
  have M0 := M
  obtain ⟨oc, od, osl, hf⟩ := M.at_
  obtain ⟨doc, pm, an, ct, rfl⟩ := M.e
  obtain ⟨cl, cld, csl, hcl⟩ := M.hcell
  refine codeAny_call_function hr.depth (KX _ _ hf) rfl S.co S.gen rfl (PySem.W.codeRec_of KX M.hcd) (hb _ _ _ _ ?_)
  refine wpAny_newFunctionEnv S.nocell (fun ⟨n, _⟩ hy => S.par n (List.of_mem_zip hy).1) (fun h₁ hns hsb => ⟨lim.fresh _ hsb, ?_⟩) S.kind
  obtain ⟨x, C, ta, tr, hx0, hxo, sc, ha, hrest, tg, q⟩ := hbody A outer s H vs Q E (hr.deeper _) hsp
  show codeAny _ _ (.func (supSt p0 p1 ap cp ep arg :: rest) (envF (supG name qual params p0 p1 ap cp ep arg rest scope cda cc) f s.heap.objs.size)) _ _
  refine PySem.ks_codeAny_funcAt ?_
  have kp : ∀ b o, s.heap.get? b = some o → h₁.get? b = some o := fun b o e => hsb.extBut b o (Nat.ne_of_lt (Heap.lt_size e)) (Heap.get?_push_of_some _ e)
  have one : ∀ {y : Str} {c : Addr}, ([("__class__", cc)] : List (Str × Addr)).lookup y = some c → y = "__class__" ∧ c = cc := fun {y c} h => by
    by_cases e : y = "__class__"
    · subst e
      simp [List.lookup] at h
      exact ⟨rfl, h.symm⟩
    · have e2 : (y == ("__class__" : Str)) = false := by simpa using e
      simp [List.lookup, e2] at h
  have cb : base.get? cc = some ⟨cl, cld, .cell (some (.ref D)), csl⟩ := e0.mod.kin _ _ hcl
  have CA : CellsAt [("__class__", cc)] ["__class__"] [none] s.heap H := ⟨rfl, fun y c h => by
      obtain ⟨_, rfl⟩ := one h
      exact ⟨(e0.bs _ _ cb).2, _, _, (e0.bs _ _ cb).1, rfl⟩, fun y z c h1 h2 => by rw [(one h1).1, (one h2).1], fun i y hy => by
      cases i with
      | zero =>
        simp at hy
        subst hy
        exact ⟨cc, by simp [List.lookup], fun v hv => by simp at hv⟩
      | succ i => simp at hy⟩
  have I := inv_startN (CX := CX0) (P := P) (w := w) (K := K) (mg := mg) (base := base) (N := N) (F := supF name qual params (supSt p0 p1 ap cp ep arg :: rest) scope cda cc) (f := f) (E := E) (h₁ := h₁) (tk := s.toks + (ps.zip us).length) S hr.hd e0 hl r CA hns kp
  have h0 : (startF N vs [none])[0]? = some (some (.ref x)) := by
    unfold startF
    cases vs with
    | nil => simp at hx0
    | cons v vs =>
      simp at hx0
      subst hx0
      rfl
  obtain ⟨pl, hev1⟩ := hev A outer s
  have fin : ∀ {σ' : L2.St} {H' : Hp} {v : V} {u : Value} {s' : Shared}, Inv (ncx CX0 P w K mg base N (supG name qual params p0 p1 ap cp ep arg rest scope cda cc) f A outer s H E) [] σ' H' s' → L2.RelV v u → Q v H' → CE outer P w H s Q u s' :=
    fun {σ' H' v u s'} J rv q => ⟨v, H', J.os, J.bare, J.base, J.hok, rv, q⟩
  refine PySem.ks_wpAt_execs_cons (PySem.ks_wpAt_Expr_any (PySem.ks_wpAt_MethodCall (pl := pl) ?_ hev1) (hin _) (hsw _))
  refine sup_base M0 I S.kind har hN h0 hka hks (S.frk _ (by simp)) hsm htop hxo sc fun h' hso k' => ?_
  have I1 := I.kept (h' := h') (t' := s.toks + (ps.zip us).length) k'
  refine wpAny_mono (tg pl _ H _ _ x C ta _ I1 hso hxo sc ha q) (fun fx s2 h2 => thn h2 fun _ s3 h3 => ?_) fun _ _ z => z
  obtain ⟨H2, J, q3⟩ := h3
  refine wpAt_of_wpAny (wpAny_mono (hrest.run [] s3 _ H2 _ J q3) (fun fl s' hs => ?_) fun _ _ z => z)
  cases fl with
  | ret u =>
    obtain ⟨v, σ', H', J, rv, q⟩ := hs
    exact fin J rv q
  | next =>
    obtain ⟨σ', H', J, q⟩ := hs
    exact fin (v := V.non) (u := Value.none) J rfl q
  | brk =>
    obtain ⟨_, _, _, q⟩ := hs
    exact False.elim q
  | cont =>
    obtain ⟨_, _, _, q⟩ := hs
    exact False.elim q
end
end Fw
namespace Fw
open PySem PySem.Spec PyProof.Rows L2 NdefX
/-! ### what the head tells of exception classes -/
def oexB (K : PySem.W.Frag) (C : Addr) : Bool := (match K.lookup C with
  | some ⟨.type "type", _, .cls cd, sl⟩ => (match cd.mro, sl.toList with
    | .ref C' :: bm, [_, _, _, _, some (.builtin n), _] => decide (C' = C) && (decide (n = "ValueError.__new__") && (cd.hasDict && (!cd.hasDel && PySem.HandSPX.refsVE bm)))
    | _, _ => false)
  | _ => false) && (He.eqO (PySem.W.findIn K (.ref C) "__setattr__") (some (some (.builtin "object.__setattr__"))) && (decide (PySem.W.subIn K (.ref C) (.type "BaseException") = some true) && (decide (PySem.W.typeIn K (.ref C) = some (.type "type")) && PySem.W.keepIn K (.ref C))))
theorem oexB_ok {K : PySem.W.Frag} {C : Addr} (h : oexB K C = true) : OexC K C := by
  obtain ⟨h1, h⟩ := He.ba h
  obtain ⟨h2, h⟩ := He.ba h
  obtain ⟨h3, h⟩ := He.ba h
  obtain ⟨h4, h5⟩ := He.ba h
  refine ⟨?_, He.eqO_ok h2, of_decide_eq_true h3, of_decide_eq_true h4, h5⟩
  split at h1
  · rename_i dd cd sl ho
    split at h1
    · rename_i C' bm k0 k1 k2 k3 n k5 hm hs
      obtain ⟨a1, a⟩ := He.ba h1
      obtain ⟨a2, a⟩ := He.ba a
      obtain ⟨a3, a⟩ := He.ba a
      obtain ⟨a4, a5⟩ := He.ba a
      have e1 := of_decide_eq_true a1
      have e2 := of_decide_eq_true a2
      subst e1 e2
      obtain ⟨c1, c2, c3, c4, c5, c6, c7, c8, c9, c10, c11⟩ := cd
      dsimp only at hm a3 a4
      have e4 : c11 = false := by simpa using a4
      subst hm a3 e4
      obtain ⟨l⟩ := sl
      dsimp only at hs
      subst hs
      exact ⟨_, _, _, _, bm, _, _, _, _, _, _, _, _, _, _, ho, a5⟩
    · cases h1
  · cases h1
/-- the code's address, the cell's address of a method that names super -/
def cdS (K : PySem.W.Frag) (f : Addr) : Addr := match K.lookup f with
  | some ⟨_, _, .func fd, _⟩ => (match fd.code with
    | .ref c => c
    | _ => 0)
  | _ => 0
def ccS (K : PySem.W.Frag) (f : Addr) : Addr := match K.lookup f with
  | some ⟨_, _, .func fd, _⟩ => (match fd.closure with
    | [(_, c)] => c
    | _ => 0)
  | _ => 0
abbrev FnS : Type := Option (Str × Str × Arguments × FuncBody × Scope × Addr × List Str × Addr)
def fnWS (K : PySem.W.Frag) (a : Addr) : FnS := match K.lookup a with
  | some ⟨_, _, .func fd, _⟩ => some (fd.name, fd.qualname, fd.params, fd.body, fd.scope, fd.globals, fd.closure.map (·.1), fd.builtins)
  | _ => none
structure DefS where
  ad : PySem.W.Frag → Addr
  D : PySem.W.Frag → Addr
  name : Str
  qual : Str
  params : Arguments
  body : List Stmt
  scope : Scope
def DefS.val (d : DefS) : FnS := some (d.name, d.qual, d.params, .stmts d.body, d.scope, mainGlobals, ["__class__"], builtinsNs)
def noneB : Value → Bool
  | .none => true
  | _ => false
theorem noneB_ok {v : Value} (h : noneB v = true) : v = .none := by
  cases v <;> first | rfl | cases h
def DefS.ok (file : Str) (K : PySem.W.Frag) (d : DefS) : Bool := (match K.lookup (d.ad K) with
  | some ⟨_, _, .func fd, _⟩ => noneB fd.defaults && (noneB fd.kwdefaults && (match fd.code with
    | .ref c => PySem.W.codeIn K (.ref c) d.qual && (match K.lookup c with
      | some ⟨_, _, .fields vs, _⟩ => (match (vs[2]? : Option Value) with
        | some (Value.str file' _) => file == file'
        | _ => false)
      | _ => false)
    | _ => false))
  | _ => false) && ((match K.lookup (ccS K (d.ad K)) with
  | some ⟨_, _, .cell (some (.ref D')), _⟩ => decide (D' = d.D K)
  | _ => false) && ((PySem.W.clsIn K (d.D K)).isSome && PySem.W.keepIn K (.ref (d.ad K))))
theorem DefS.supM {P : Program} {K : PySem.W.Frag} {d : DefS} (e : fnWS K (d.ad K) = d.val) (c : d.ok P.main.file K = true) : ∃ fd, SupM P K (d.D K) (d.ad K) (cdS K (d.ad K)) (ccS K (d.ad K)) fd d.name d.qual d.params d.body d.scope := by
  obtain ⟨c1, c⟩ := He.ba c
  obtain ⟨c2, c⟩ := He.ba c
  obtain ⟨c3, c4⟩ := He.ba c
  have c2' := c2
  unfold fnWS at e
  unfold cdS ccS
  unfold ccS at c2
  cases q : K.lookup (d.ad K) with
  | none => rw [q] at c1; cases c1
  | some o =>
    obtain ⟨oc, od, dt, osl⟩ := o
    rw [q] at c1 c2 e
    cases dt with
    | func fd =>
      obtain ⟨n1, n2, n3, n4, n5, n6, n7, n8, n9, n10, n11, n12, n13, n14, n15⟩ := fd
      unfold DefS.val at e
      simp only [Option.some.injEq, Prod.mk.injEq] at e
      have e2 := e
      obtain ⟨h1, h2, h3, h4, h5, h6, h7, h8⟩ := e2
      subst h1 h2 h3 h4 h5 h6 h8
      dsimp only at c1 c2 ⊢
      obtain ⟨a1, b1⟩ := He.ba c1
      obtain ⟨a2, b2⟩ := He.ba b1
      clear b1 c1
      have z8 := noneB_ok a1
      have z9 := noneB_ok a2
      subst z8 z9
      cases n7 with
      | nil => simp at h7
      | cons p r =>
        cases r with
        | cons _ _ => simp at h7
        | nil =>
          obtain ⟨y, cc⟩ := p
          have hy : y = "__class__" := by
            simp at h7
            exact h7
          subst hy
          cases n13 with
          | ref cd =>
            dsimp only at b2 ⊢
            obtain ⟨a3, a4⟩ := He.ba b2
            refine ⟨_, ⟨oc, od, osl, q⟩, ⟨_, _, _, _, rfl⟩, a3, ?_, ?_, c3, c4⟩
            · cases q2 : K.lookup cd with
              | none => rw [q2] at a4; cases a4
              | some o2 =>
                obtain ⟨o2c, o2d, d2, o2s⟩ := o2
                rw [q2] at a4
                cases d2 with
                | fields vs =>
                  dsimp only at a4
                  cases q3 : vs[2]? with
                  | none => rw [q3] at a4; cases a4
                  | some v =>
                    rw [q3] at a4
                    cases v with
                    | str file tf => exact ⟨_, _, vs, _, file, tf, rfl, q3, a4⟩
                    | _ => cases a4
                | _ => cases a4
            · dsimp only at c2
              cases q2 : K.lookup cc with
              | none => rw [q2] at c2; cases c2
              | some o2 =>
                obtain ⟨o2c, o2d, d2, o2s⟩ := o2
                rw [q2] at c2
                cases d2 with
                | cell v =>
                  cases v with
                  | none => cases c2
                  | some v =>
                    cases v with
                    | ref D' =>
                      have e3 := of_decide_eq_true c2
                      subst e3
                      exact ⟨_, _, _, rfl⟩
                    | _ => cases c2
                | _ => cases c2
          | _ => cases b2
    | _ => cases c1
def supCB (K : PySem.W.Frag) (C D : Addr) (tgt : Value) : Bool := oexB K C && (decide (PySem.W.mroIn K C (.ref D) = some true) && ((PySem.W.clsIn K C).isSome && (He.eqO (PySem.W.ks_superIn K C D "__init__") (some (some tgt)) && decide (PySem.W.subIn K (.ref C) (.type "ValueError") = some true))))
theorem supCB_ok {K : PySem.W.Frag} {C D : Addr} {tgt : Value} (h : supCB K C D tgt = true) : SupC K C D tgt := by
  obtain ⟨h1, h⟩ := He.ba h
  obtain ⟨h2, h⟩ := He.ba h
  obtain ⟨h3, h⟩ := He.ba h
  obtain ⟨h4, h5⟩ := He.ba h
  exact ⟨oexB_ok h1, of_decide_eq_true h2, h3, He.eqO_ok h4, of_decide_eq_true h5⟩
end Fw
namespace Fw
open PySem PySem.Spec PyProof.Rows L2 NdefX
/-! ### raise C(e, ..) -/
section
variable {X : Cx} {e : Expr} {es : List Expr} {ta : TA} {p pos : Pos}
/-- C(e, ..), C an own exception class with its own __init__ -/
theorem pmkN_oex {CX : CXT} {x : Str} {C fI : Addr} {k : Nat} {ps : List Str} {sp : Sp} (T : OexC X.K C) (iC : PySem.W.findIn X.K (.ref C) "__init__" = some (some (.ref fI))) (tI : PySem.W.typeIn X.K (.ref fI) = some (.type "function"))
    (F1 : Ok X.prog X.w X.K X.mg X.base CX k fI ps sp) (hr : Room (k + 1) X.A) (hx : Passes CX X (fun _ _ _ => False)) (hg : Gl X x) (hm : X.mg x = some (.ref C)) (ha : PA X (e :: es) ta)
    (hdb : (x == ("__debug__" : Str)) = false := by decide) (he : starEach (e :: es) X.env = (false, eval e X.env) :: starEach es X.env := by rfl) (hpl : (backTo pos (starEach es X.env)).any (·.1) = false := by rfl) :
    L2N.PMk X (.Call (.Name x p) (e :: es) [] pos) (tMkO C sp [] ta) := by
  obtain ⟨fd, F1, hb, _⟩ := F1
  intro pins s σ H Q I h
  obtain ⟨nm, q, N, bs, bm, sn, sub, ab, col, dd, k0, k1, k2, k3, k5, hC, hbm⟩ := T.cls
  refine wpAny_Call_Name_kw (ld_glob I hg hm ?_ hdb)
  refine PySem.W.callWith_K (h₀ := X.base) I.ok.mod.kin T.kC (thn (ha.run pos pins s σ H _ I h) fun us s1 hh => ?_) he hpl
  obtain ⟨vs, H1, I1, r1, hz, q1⟩ := hh
  refine ⟨I1.kIn, ?_⟩
  show wpAny _ _ (call (.ref C) us) _ _ _
  obtain ⟨hp, g, dr, tk, os⟩ := s1
  have sz := Nat.le_succ hp.objs.size
  have q1 := q1 (hp.objs.size + 1) (I1.hok.fresh sz)
  rw [List.append_nil] at q1
  have up : ∀ b o, hp.get? b = some o → ((hp.push (PySem.W.kdv_tup us)).push (PySem.HandSPX.excO C hp.objs.size)).get? b = some o := fun b o z => Heap.get?_push_of_some _ (Heap.get?_push_of_some _ z)
  have at1 : ((hp.push (PySem.W.kdv_tup us)).push (PySem.HandSPX.excO C hp.objs.size)).get? (hp.objs.size + 1) = some (PySem.HandSPX.excO C hp.objs.size) := by heap_get
  have I2 : Inv X pins σ (upd H1 (hp.objs.size + 1) (exo (hp.objs.size + 1) C none)) ⟨(hp.push (PySem.W.kdv_tup us)).push (PySem.HandSPX.excO C hp.objs.size), g, dr, tk, os⟩ := I1.laid (t' := tk) up sz (exo_ok at1)
  have r2 : Vals (V.ref (hp.objs.size + 1) :: vs) (Value.ref (hp.objs.size + 1) :: us) := .cons rfl r1
  have b2 := hb _ (Value.ref (hp.objs.size + 1) :: us) I2.kIn (by
    have z := r2.length
    rw [F1.len _ _ _ _ q1] at z
    rw [List.append_nil]
    exact z.symm)
  rw [List.append_nil] at b2
  have lu : us.length ≤ sizeLine := by
    rw [← Paired.length r1, sizeLine_eq]
    omega
  refine wpAny_call (PySem.HandSPX.call_own PySem.F.excBase_ValueError (fun Y => PySem.HandSPX.refsVE_contains Y bm hbm) (I1.kIn _ _ hC) (PySem.W.looks_findIn I1.kIn iC) (fun self => PySem.W.bind_fn I1.kIn self tI) lu
    (codeAny_mono (F1.run _ X.stack _ _ ⟨Value.ref (hp.objs.size + 1) :: us, []⟩ (Value.ref (hp.objs.size + 1) :: us) _ _ (fun _ _ _ => False) (hr.make C us []) (I2.env0.make C us []) b2 r2 q1) fun r s' hq' => ?_))
  cases r with
  | error er => exact hx pins σ _ _ er s' I2 hq'
  | ok fl =>
    cases fl with
    | ret u =>
      obtain ⟨v, H2, os2, bare2, un2, hok2, rv, ev, d, fs, ea, ed, hd1, q2⟩ := hq'
      subst ev
      obtain ⟨h2, g2, d2, t2, os'⟩ := s'
      obtain ⟨t0, G, J, kG, ge, hoe, na⟩ := mk_end0 (d2 := d2) (t2 := t2) I1 sz up un2 hok2 os2 bare2 ea ed hd1
      refine ⟨rv, hp.objs.size + 1, _, _, ⟨G, g2, d2, t2, os'⟩, _, .ref C, some d, rfl, J, kG, ge, hoe, ⟨rfl, rfl, fun vs hv => ?_⟩, rfl, rfl, na, rfl, bare2, raises_own T.exC T.tyC, q2⟩
      cases hv
      rfl
    | next => exact False.elim hq'
    | brk => exact False.elim hq'
    | cont => exact False.elim hq'
theorem passN {X : Cx} : Passes (L2N.CX X.prog X.w) X E0 := fun _ _ _ _ _ _ _ h => by
  obtain ⟨_, _, _, _, _, _, _, _, _, _, _, _, z⟩ := h
  exact z.elim
theorem takesN0 {X : Cx} : L2N.Takes X (fun _ _ _ _ => False) := fun _ _ x => by
  obtain ⟨_, _, _, _, _, _, _, _, _, _, _, _, _, _, _, _, z⟩ := x
  exact z.elim
theorem passX {X : Cx} {E : XK} (tk : L2N.Takes X fun cls d _ H => E cls d H) : Passes (L2N.CX X.prog X.w) X E := L2N.passes_call tk fun _ _ _ _ h => h
end
/-! ### the __init__ of an own exception class -/
/-- behind the __init__: the fields, the newest first -/
structure Exd (H H' : Hp) (e C : Addr) (fs : List (Str × V)) : Prop where
  q : ∃ dx, H dx = none ∧ dx ≠ e ∧ H' e = some (exo e C (some dx)) ∧ H' dx = some (exd dx fs) ∧ ∀ b o, b ≠ e → H b = some o → H' b = some o
/-- the base class's: def __init__(self, reason): super().__init__(reason); self.reason = reason -/
def sp_base (K : PySem.W.Frag) (D : Addr) : Sp := fun vs H Q _ => ∃ (e C : Addr) (v : V), vs = [.ref e, v] ∧ SupC K C D (.builtin "ValueError.__init__") ∧ PySem.W.findIn K (.ref C) "reason" = some none ∧ H e = some (exo e C none) ∧ ∀ H', Exd H H' e C [(("reason" : Str), v)] → Q .non H'
/-- .. another's: def __init__(self, f, ..): super().__init__(text); self.f = f; .. -/
def sp_exc (C : Addr) (txt : Str) (names : List Str) : Sp := fun vs H Q _ => ∃ (e : Addr) (ws : List V), vs = .ref e :: ws ∧ ws.length = names.length ∧ H e = some (exo e C none) ∧ ∀ H', Exd H H' e C ((names.zip ws).reverse ++ [(("reason" : Str), V.str txt)]) → Q .non H'
end Fw
namespace Fw
open PySem PySem.Spec PyProof.Rows L2 NdefX
section
variable {P : Program} {w : World} {K : PySem.W.Frag} {mg : Str → Option Value} {base : Heap} {N ps : List Str} {f D cda cc : Addr} {fd : FuncData} {name qual : Str} {params : Arguments} {rest : List Stmt} {scope : Scope} {arg : Expr} {p0 p1 ap cp ep : Pos} {k : Nat} {sp : Sp} {tgt : Value}
  {TG : Addr → Addr → List V → Hp → (Hp → Prop) → Prop} {ar : Arg}
/-- .. as a def that keeps a promise -/
theorem okSup (M : SupM P K D f cda cc fd name qual params (supSt p0 p1 ap cp ep arg :: rest) scope)
    (S : NScope N ps ["__class__"] scope) (har : (params.posonlyargs ++ params.args).head? = some ar) (hN : N[0]? = some ar.arg) (hka : scope.names.lookup ar.arg = some .local) (hks : scope.names.lookup ("super" : Str) = some .globalImplicit)
    (hsm : mg ("super" : Str) = none) (htop : (P.main.scope.names.lookup ("super" : Str)).isSome = false)
    (hb : ∀ (doc pm : Value) (an : Option Addr) (ct : Value) (us : List Value), us.length = ps.length → bindArgs (PySem.W.fnX name qual params (supSt p0 p1 ap cp ep arg :: rest) scope [("__class__", cc)] .none .none doc pm an (.ref cda) ct) ⟨us, []⟩ = pure (ps.zip us))
    (hev : ∀ (A : Around) (outer : List Env) (s : Shared), ∃ pl : Sem Bool, eval (.Call (.Attribute (.Call (.Name "super" p0) [] [] p1) "__init__" ap) [arg] [] cp) (envF (supG name qual params p0 p1 ap cp ep arg rest scope cda cc) f s.heap.objs.size) = (do
      let ov ← attributeBase (.Call (.Name "super" p0) [] [] p1) "__init__" (envF (supG name qual params p0 p1 ap cp ep arg rest scope cda cc) f s.heap.objs.size) (eval (.Call (.Name "super" p0) [] [] p1) (envF (supG name qual params p0 p1 ap cp ep arg rest scope cda cc) f s.heap.objs.size))
      standAt ap.atName
      let (fx, first) ← holding [ov] (getMethod ov "__init__" pl)
      callWith cp fx first (backTo cp (starEach [arg] (envF (supG name qual params p0 p1 ap cp ep arg rest scope cda cc) f s.heap.objs.size))) []))
    (hin : ∀ L, interactive (envF (supG name qual params p0 p1 ap cp ep arg rest scope cda cc) f L) = false)
    (hsw : ∀ L, swapsWith (.Call (.Attribute (.Call (.Name "super" p0) [] [] p1) "__init__" ap) [arg] [] cp) none ep.line (envF (supG name qual params p0 p1 ap cp ep arg rest scope cda cc) f L) = pure false)
    (len : ∀ vs H Q E, sp vs H Q E → vs.length = ps.length)
    (hbody : ∀ (A : Around) (outer : List Env) (s : Shared) (H : Hp) (vs : List V) (Q : VK) (E : XK), Room k (A.deeper (envF (supG name qual params p0 p1 ap cp ep arg rest scope cda cc) f s.heap.objs.size)) → sp vs H Q E →
      ∃ (x C : Addr) (ta : TA) (tr : TS), vs[0]? = some (.ref x) ∧ H x = some (exo x C none) ∧ SupC K C D tgt ∧ PA (ncx CX0 P w K mg base N (supG name qual params p0 p1 ap cp ep arg rest scope cda cc) f A outer s H E) [arg] ta ∧
        PSs (ncx CX0 P w K mg base N (supG name qual params p0 p1 ap cp ep arg rest scope cda cc) f A outer s H E) rest tr ∧
        Tgt (ncx CX0 P w K mg base N (supG name qual params p0 p1 ap cp ep arg rest scope cda cc) f A outer s H E) D tgt arg cp TG ∧
        ta (startF N vs [none]) H fun ws H1 => TG x C ws H1 fun H2 => tr { nx := fun _ H' => Q .non H', rt := Q } (startF N vs [none]) H2) : Ok P w K mg base CX0 (k + 1) f ps sp := by
  have F := fn_sup M S har hN hka hks hsm htop len hev hin hsw hbody
  obtain ⟨oc, od, osl, lk⟩ := M.at_
  obtain ⟨doc, pm, an, ct, e⟩ := M.e
  refine ⟨fd, F, fun s us XK hl => ?_, M.kp, oc, od, osl, lk⟩
  rw [List.append_nil] at hl ⊢
  subst e
  exact BindsTo.of_eq (hb doc pm an ct us hl)
end
section
variable {K : PySem.W.Frag} {H H1 : Hp} {e C : Addr} {v : V} {f : Str} {i : Nat} {σ : L2.St} {D : Ends} {fs : List (Str × V)}
theorem ost_first (h0 : σ[0]? = some (some (.ref e))) (hi : σ[i]? = some (some v)) (T : OexC K C) (hno : PySem.W.findIn K (.ref C) f = some none) (he : H e = some (exo e C none)) (k : ∀ H2, Exd H H2 e C [(f, v)] → D.nx σ H2) : tOst K f (tVar 0) (tVar i) D σ H := by
  refine ⟨v, hi, .ref e, h0, e, C, rfl, T, hno, .inl ⟨he, fun dx d1 d2 => k _ ⟨dx, d1, d2, upd_same, by rw [upd_ne d2, upd_same], fun b o nb hb => ?_⟩⟩⟩
  rw [upd_ne nb, upd_ne (ne_of_none hb d1)]
  exact hb
theorem ost_next (h0 : σ[0]? = some (some (.ref e))) (hi : σ[i]? = some (some v)) (T : OexC K C) (hno : PySem.W.findIn K (.ref C) f = some none) (X : Exd H H1 e C fs) (hl : fs.length ≤ 900) (k : ∀ H2, Exd H H2 e C ((f, v) :: fs) → D.nx σ H2) : tOst K f (tVar 0) (tVar i) D σ H1 := by
  obtain ⟨dx, d1, d2, d3, d4, d5⟩ := X.q
  refine ⟨v, hi, .ref e, h0, e, C, rfl, T, hno, .inr ⟨dx, fs, d3, d4, hl, k _ ⟨dx, d1, d2, by rw [upd_ne d2.symm]; exact d3, upd_same, fun b o nb hb => ?_⟩⟩⟩
  rw [upd_ne (ne_of_none hb d1)]
  exact d5 b o nb hb
end
structure SaysS (file : Str) (fs : List DefS) (K : PySem.W.Frag) : Prop where
  ok : (fs.all fun d => d.ok file K) = true
  fn : (fs.map fun d => fnWS K (d.ad K)) = fs.map DefS.val
theorem SaysS.sup {P : Program} {fs : List DefS} {K : PySem.W.Frag} (c : SaysS P.main.file fs K) (i : Nat) {d : DefS} (hi : fs[i]? = some d := by rfl) : ∃ fd, SupM P K (d.D K) (d.ad K) (cdS K (d.ad K)) (ccS K (d.ad K)) fd d.name d.qual d.params d.body d.scope := by
  have e2 : (fs.map fun d => fnWS K (d.ad K))[i]? = (fs.map DefS.val)[i]? := by rw [c.fn]
  rw [List.getElem?_map, List.getElem?_map, hi] at e2
  exact DefS.supM (Option.some.inj e2) (List.all_eq_true.mp c.ok d (List.mem_of_getElem? hi))
abbrev AlE : Type := AlY × (Bool × List FnS)
def obsE (n : AsF) (fa : List He.Fa) (ts : List He.Tab) (ex : PySem.W.Frag → Bool) (fy : List DefY) (file : Str) (fs : List DefS) (g : Addr → Option Obj) : AlE :=
  (obsY n fa ts ex fy g, (fs.all fun d => d.ok file (frY n g), fs.map fun d => fnWS (frY n g) (d.ad (frY n g))))
def hookE (n : AsF) (fa : List He.Fa) (ts : List He.Tab) (ex : PySem.W.Frag → Bool) (fy : List DefY) (file : Str) (fs : List DefS) : PySem.W.Hook where
  α := AlE
  obs := fun s => obsE n fa ts ex fy file fs s.heap.get?
  val := fun w => (valY ts fy w, (true, fs.map DefS.val))
  says := fun w h => ∃ K : PySem.W.Frag, K.In h ∧ SaysY fa ts ex fy w h K ∧ SaysS file fs K
  of := fun w s e => by
    have e0 := congrArg (fun z : AlE => z.1) e
    have e1 := congrArg (fun z : AlY => z.1) e0
    have e2 := congrArg (fun z : AlY => z.2.1) e0
    have e3 := congrArg (fun z : AlY => z.2.2.1) e0
    have e4 := congrArg (fun z : AlY => z.2.2.2) e0
    have e5 := congrArg (fun z : AlE => z.2.1) e
    have e6 := congrArg (fun z : AlE => z.2.2) e
    exact ⟨_, He.frT_in, ⟨e1, e2, e3, e4⟩, ⟨e5, e6⟩⟩
  keeps := fun _ _ _ ⟨K, hK, c, d⟩ k => ⟨K, PySem.W.Frag.In.keeps hK k, ⟨c.t, c.more, c.ok, c.fn⟩, d⟩
theorem obsE_eq {n : AsF} {fa : List He.Fa} {ts : List He.Tab} {ex : PySem.W.Frag → Bool} {fy : List DefY} {file : Str} {fs : List DefS} {g : Addr → Option Obj} {s : Shared} (h : ∀ a, g a = s.heap.get? a) : obsE n fa ts ex fy file fs g = (hookE n fa ts ex fy file fs).obs s := by
  have e : g = s.heap.get? := funext h
  rw [e] <;> rfl
end Fw
namespace Fw
open PySem PySem.Spec PyProof.Rows L2 NdefX
def excB (K : PySem.W.Frag) (D : Addr) : Bool := He.eqO (PySem.W.findIn K (.ref D) "__getattribute__") (some (some (.builtin "BaseException.__getattribute__"))) && (He.eqO (PySem.W.findIn K (.ref D) "__getattr__") (some none) && (decide (PySem.W.subIn K (.ref D) (.type "BaseException") = some true) && (PySem.W.hasDictIn K D && (He.eqO (PySem.W.findIn K (.ref D) "__class__") (some (some (.builtin "object.__class__"))) && (He.eqO (PySem.W.specialIn K (.builtin "object.__class__") "__get__") (some (some (.builtin "getset_descriptor.__get__"))) && (decide (PySem.W.takesIn K (.builtin "object.__class__") = some true) && decide (PySem.W.mroIn K D (.type "object") = some true)))))))
theorem excB_ok {K : PySem.W.Frag} {D : Addr} (h : excB K D = true) : ExcC K D := by
  obtain ⟨h1, h⟩ := He.ba h
  obtain ⟨h2, h⟩ := He.ba h
  obtain ⟨h3, h⟩ := He.ba h
  obtain ⟨h4, h⟩ := He.ba h
  obtain ⟨h5, h⟩ := He.ba h
  obtain ⟨h6, h⟩ := He.ba h
  obtain ⟨h7, h8⟩ := He.ba h
  exact ⟨He.eqO_ok h1, He.eqO_ok h2, of_decide_eq_true h3, h4, He.eqO_ok h5, He.eqO_ok h6, of_decide_eq_true h7, of_decide_eq_true h8⟩
end Fw

namespace Fk
open PySem PySem.Spec PyProof.Rows L2 Fw
def top (i : Nat) : Stmt := PySem.Challenge.pw_forkwaits_k63_programs_are_made.main.body.getD i (.Pass ⟨0, 0, 0, 0⟩)
abbrev s_is_statement : Stmt := top 15
theorem sc_is_statement : FnScope ["word", "count"] ["word", "count"] (defScope s_is_statement) := ⟨rfl, rfl, rfl, by decide +kernel, rfl, by decide +kernel, by decide +kernel⟩
abbrev s_is_valid : Stmt := top 19
theorem sc_is_valid : FnScope ["statement", "last", "parents", "target"] ["statement", "last", "parents"] (defScope s_is_valid) := ⟨rfl, rfl, rfl, by decide +kernel, rfl, by decide +kernel, by decide +kernel⟩
abbrev s_bearers : Stmt := top 20
theorem sc_bearers : FnScope ["bodies", "parents", "slot", "body", "last", "index", "statement"] ["bodies"] (defScope s_bearers) := ⟨rfl, rfl, rfl, by decide +kernel, rfl, by decide +kernel, by decide +kernel⟩
abbrev s_ProgramD__initD_ : Stmt := inClass (top 21) 1
theorem sc_ProgramD__initD_ : FnScope ["self", "bodies", "body"] ["self", "bodies"] (defScope s_ProgramD__initD_) := ⟨rfl, rfl, rfl, by decide +kernel, rfl, by decide +kernel, by decide +kernel⟩
abbrev s_ProgramD__lenD_ : Stmt := inClass (top 21) 3
theorem sc_ProgramD__lenD_ : FnScope ["self"] ["self"] (defScope s_ProgramD__lenD_) := ⟨rfl, rfl, rfl, by decide +kernel, rfl, by decide +kernel, by decide +kernel⟩
abbrev s_Program_body : Stmt := inClass (top 21) 5
theorem sc_Program_body : FnScope ["self", "slot"] ["self", "slot"] (defScope s_Program_body) := ⟨rfl, rfl, rfl, by decide +kernel, rfl, by decide +kernel, by decide +kernel⟩
abbrev s__law_start : Stmt := top 23
theorem sc__law_start : FnScope ["script"] ["script"] (defScope s__law_start) := ⟨rfl, rfl, rfl, by decide +kernel, rfl, by decide +kernel, by decide +kernel⟩
abbrev s__law_draw : Stmt := top 24
theorem sc__law_draw : FnScope ["state", "many", "value", "mixed"] ["state", "many"] (defScope s__law_draw) := ⟨rfl, rfl, rfl, by decide +kernel, rfl, by decide +kernel, by decide +kernel⟩
abbrev s__law_is_number : Stmt := top 25
theorem sc__law_is_number : FnScope ["actual"] ["actual"] (defScope s__law_is_number) := ⟨rfl, rfl, rfl, by decide +kernel, rfl, by decide +kernel, by decide +kernel⟩
abbrev s__law_same : Stmt := top 26
theorem sc__law_same : FnScope ["actual", "expected", "k"] ["actual", "expected"] (defScope s__law_same) := ⟨rfl, rfl, rfl, by decide +kernel, rfl, by decide +kernel, by decide +kernel⟩
abbrev s__law_is_good : Stmt := top 27
theorem sc__law_is_good : FnScope ["statement", "size", "last", "borne", "slot"] ["statement", "size", "last", "borne"] (defScope s__law_is_good) := ⟨rfl, rfl, rfl, by decide +kernel, rfl, by decide +kernel, by decide +kernel⟩
abbrev s__law_program_fault : Stmt := top 28
theorem sc__law_program_fault : FnScope ["bodies", "size", "borne", "slot", "last", "body", "at"] ["bodies"] (defScope s__law_program_fault) := ⟨rfl, rfl, rfl, by decide +kernel, rfl, by decide +kernel, by decide +kernel⟩
abbrev s__law_bodies_stand : Stmt := top 29
theorem sc__law_bodies_stand : FnScope ["program", "bodies", "slot"] ["program", "bodies"] (defScope s__law_bodies_stand) := ⟨rfl, rfl, rfl, by decide +kernel, rfl, by decide +kernel, by decide +kernel⟩
abbrev s__law_drawn_bodies : Stmt := top 30
theorem sc__law_drawn_bodies : FnScope ["state", "size", "bodies", "k", "slot", "body", "target", "other", "wait"] ["state"] (defScope s__law_drawn_bodies) := ⟨rfl, rfl, rfl, by decide +kernel, rfl, by decide +kernel, by decide +kernel⟩
abbrev s__law_odd_statement : Stmt := top 31
theorem sc__law_odd_statement : FnScope ["state", "size", "slot", "target", "other", "odd"] ["state", "size", "slot"] (defScope s__law_odd_statement) := ⟨rfl, rfl, rfl, by decide +kernel, rfl, by decide +kernel, by decide +kernel⟩
abbrev s__law_changed : Stmt := top 32
theorem sc__law_changed : FnScope ["state", "bodies", "size", "k", "slot", "body", "kind", "place"] ["state", "bodies"] (defScope s__law_changed) := ⟨rfl, rfl, rfl, by decide +kernel, rfl, by decide +kernel, by decide +kernel⟩
abbrev s__law_program : Stmt := top 33
theorem sc__law_program : FnScope ["bodies"] ["bodies"] (defScope s__law_program) := ⟨rfl, rfl, rfl, by decide +kernel, rfl, by decide +kernel, by decide +kernel⟩
abbrev s__law_attempt : Stmt := top 34
theorem sc__law_attempt : FnScope ["bodies", "e"] ["bodies"] (defScope s__law_attempt) := ⟨rfl, rfl, rfl, by decide +kernel, rfl, by decide +kernel, by decide +kernel⟩
abbrev s__law_refused_by_base : Stmt := top 35
theorem sc__law_refused_by_base : FnScope ["bodies", "e"] ["bodies"] (defScope s__law_refused_by_base) := ⟨rfl, rfl, rfl, by decide +kernel, rfl, by decide +kernel, by decide +kernel⟩
abbrev s__law_made_stands : Stmt := top 36
theorem sc__law_made_stands : FnScope ["program", "given", "bodies", "body", "told"] ["program", "given", "bodies"] (defScope s__law_made_stands) := ⟨rfl, rfl, rfl, by decide +kernel, rfl, by decide +kernel, by decide +kernel⟩
abbrev s_law : Stmt := top 37
theorem sc_law : FnScope ["script", "state", "bodies", "given", "body", "fault", "made"] ["script"] (defScope s_law) := ⟨rfl, rfl, rfl, by decide +kernel, rfl, by decide +kernel, by decide +kernel⟩
abbrev s_ForkErrorD__initD_ : Stmt := inClass (top 2) 0
abbrev s_BadProgramD__initD_ : Stmt := inClass (top 6) 0
abbrev s_TooManyD__initD_ : Stmt := inClass (top 5) 0
abbrev P : Program := PySem.Challenge.rw_forkwaits_k63_programs_are_made.prog
abbrev fs : List DefS := [⟨fun K => (He.fAd K ("ForkError", some "__init__")), fun K => (He.ga K "ForkError"), "__init__", "ForkError.__init__", defArgs s_ForkErrorD__initD_, defBody s_ForkErrorD__initD_, defScope s_ForkErrorD__initD_⟩,
  ⟨fun K => (He.fAd K ("BadProgram", some "__init__")), fun K => (He.ga K "BadProgram"), "__init__", "BadProgram.__init__", defArgs s_BadProgramD__initD_, defBody s_BadProgramD__initD_, defScope s_BadProgramD__initD_⟩,
  ⟨fun K => (He.fAd K ("TooMany", some "__init__")), fun K => (He.ga K "TooMany"), "__init__", "TooMany.__init__", defArgs s_TooManyD__initD_, defBody s_TooManyD__initD_, defScope s_TooManyD__initD_⟩]
abbrev fn : List DefY := [
  ⟨fun K => (He.fAd K ("is_statement", none)), "is_statement", "is_statement", defArgs s_is_statement, defBody s_is_statement, defScope s_is_statement, [], []⟩,
  ⟨fun K => (He.fAd K ("is_valid", none)), "is_valid", "is_valid", defArgs s_is_valid, defBody s_is_valid, defScope s_is_valid, [], []⟩,
  ⟨fun K => (He.fAd K ("bearers", none)), "bearers", "bearers", defArgs s_bearers, defBody s_bearers, defScope s_bearers, [], []⟩,
  ⟨fun K => (He.fAd K ("Program", some "__init__")), "__init__", "Program.__init__", defArgs s_ProgramD__initD_, defBody s_ProgramD__initD_, defScope s_ProgramD__initD_, [], []⟩,
  ⟨fun K => (He.fAd K ("Program", some "__len__")), "__len__", "Program.__len__", defArgs s_ProgramD__lenD_, defBody s_ProgramD__lenD_, defScope s_ProgramD__lenD_, [], []⟩,
  ⟨fun K => (He.fAd K ("Program", some "body")), "body", "Program.body", defArgs s_Program_body, defBody s_Program_body, defScope s_Program_body, [], []⟩,
  ⟨fun K => (He.fAd K ("_law_start", none)), "_law_start", "_law_start", defArgs s__law_start, defBody s__law_start, defScope s__law_start, [], []⟩,
  ⟨fun K => (He.fAd K ("_law_draw", none)), "_law_draw", "_law_draw", defArgs s__law_draw, defBody s__law_draw, defScope s__law_draw, [], []⟩,
  ⟨fun K => (He.fAd K ("_law_is_number", none)), "_law_is_number", "_law_is_number", defArgs s__law_is_number, defBody s__law_is_number, defScope s__law_is_number, [], []⟩,
  ⟨fun K => (He.fAd K ("_law_same", none)), "_law_same", "_law_same", defArgs s__law_same, defBody s__law_same, defScope s__law_same, [], []⟩,
  ⟨fun K => (He.fAd K ("_law_is_good", none)), "_law_is_good", "_law_is_good", defArgs s__law_is_good, defBody s__law_is_good, defScope s__law_is_good, [], []⟩,
  ⟨fun K => (He.fAd K ("_law_program_fault", none)), "_law_program_fault", "_law_program_fault", defArgs s__law_program_fault, defBody s__law_program_fault, defScope s__law_program_fault, [], []⟩,
  ⟨fun K => (He.fAd K ("_law_bodies_stand", none)), "_law_bodies_stand", "_law_bodies_stand", defArgs s__law_bodies_stand, defBody s__law_bodies_stand, defScope s__law_bodies_stand, [], []⟩,
  ⟨fun K => (He.fAd K ("_law_drawn_bodies", none)), "_law_drawn_bodies", "_law_drawn_bodies", defArgs s__law_drawn_bodies, defBody s__law_drawn_bodies, defScope s__law_drawn_bodies, [], []⟩,
  ⟨fun K => (He.fAd K ("_law_odd_statement", none)), "_law_odd_statement", "_law_odd_statement", defArgs s__law_odd_statement, defBody s__law_odd_statement, defScope s__law_odd_statement, [], []⟩,
  ⟨fun K => (He.fAd K ("_law_changed", none)), "_law_changed", "_law_changed", defArgs s__law_changed, defBody s__law_changed, defScope s__law_changed, [], []⟩,
  ⟨fun K => (He.fAd K ("_law_program", none)), "_law_program", "_law_program", defArgs s__law_program, defBody s__law_program, defScope s__law_program, [], []⟩,
  ⟨fun K => (He.fAd K ("_law_attempt", none)), "_law_attempt", "_law_attempt", defArgs s__law_attempt, defBody s__law_attempt, defScope s__law_attempt, [], []⟩,
  ⟨fun K => (He.fAd K ("_law_refused_by_base", none)), "_law_refused_by_base", "_law_refused_by_base", defArgs s__law_refused_by_base, defBody s__law_refused_by_base, defScope s__law_refused_by_base, [], []⟩,
  ⟨fun K => (He.fAd K ("_law_made_stands", none)), "_law_made_stands", "_law_made_stands", defArgs s__law_made_stands, defBody s__law_made_stands, defScope s__law_made_stands, [], []⟩,
  ⟨fun K => (He.fAd K ("law", none)), "law", "law", defArgs s_law, defBody s_law, defScope s_law, [], []⟩]
abbrev fa : List He.Fa := [
  .glo "is_statement",
  .glo "is_valid",
  .glo "bearers",
  .glo "_law_start",
  .glo "_law_draw",
  .glo "_law_is_number",
  .glo "_law_same",
  .glo "_law_is_good",
  .glo "_law_program_fault",
  .glo "_law_bodies_stand",
  .glo "_law_drawn_bodies",
  .glo "_law_odd_statement",
  .glo "_law_changed",
  .glo "_law_program",
  .glo "_law_attempt",
  .glo "_law_refused_by_base",
  .glo "_law_made_stands",
  .glo "law",
  .glo "Program",
  .cls "Program",
  .mkr "Program",
  .meth "Program" "__len__",
  .meth "Program" "body",
  .noat "Program" "_parents",
  .noat "Program" "_bodies",
  .free "ValueError",
  .free "bool",
  .free "enumerate",
  .free "int",
  .free "isinstance",
  .free "len",
  .free "list",
  .free "min",
  .free "range",
  .free "str",
  .free "tuple",
  .free "super",
  .str "DIGITS" "0123456789",
  .int "MOST_DIGITS" 3,
  .str "BEAR" "bear",
  .glo "WAITS",
  .str "JOINT" "; ",
  .glo "ForkError",
  .glo "BadProgram",
  .glo "TooMany"]
abbrev ts : List He.Tab := []
abbrev exs (K : PySem.W.Frag) : List Bool := [tupDB K "WAITS",
  He.tupB K "WAITS" [.str "wait", .str "any"],
  He.conB K "Program" "MOST" (.int 600),
  iscB K "Program",
  He.eqO (PySem.W.nsIn K cStatics "thirdparty.any") (some none),
  decide (PySem.W.typeIn K (.ref (He.fAd K ("ForkError", some "__init__"))) = some (.type "function")),
  PySem.W.fnIn K (He.fAd K ("ForkError", some "__init__")),
  oexB K (He.ga K "ForkError"),
  xfB K (He.ga K "ForkError"),
  excB K (He.ga K "ForkError"),
  He.eqO (PySem.W.findIn K (.ref (He.ga K "ForkError")) "reason") (some none),
  He.eqO (PySem.W.findIn K (.ref (He.ga K "ForkError")) "__init__") (some (some (.ref (He.fAd K ("ForkError", some "__init__"))))),
  decide (PySem.W.typeIn K (.ref (He.fAd K ("ForkError", some "__init__"))) = some (.type "function")),
  decide (PySem.W.kitOne K (.ref (He.ga K "ForkError")) (.type "ValueError") = some true),
  decide (PySem.W.exmOne K (.ref (He.ga K "ForkError")) (.ref (He.ga K "ForkError")) = some true),
  decide (PySem.W.kitOne K (.ref (He.ga K "ForkError")) (.ref (He.ga K "ForkError")) = some true),
  decide (PySem.W.exmOne K (.ref (He.ga K "ForkError")) (.ref (He.ga K "BadProgram")) = some false),
  decide (PySem.W.kitOne K (.ref (He.ga K "ForkError")) (.ref (He.ga K "BadProgram")) = some false),
  decide (PySem.W.exmOne K (.ref (He.ga K "ForkError")) (.ref (He.ga K "TooMany")) = some false),
  decide (PySem.W.kitOne K (.ref (He.ga K "ForkError")) (.ref (He.ga K "TooMany")) = some false),
  oexB K (He.ga K "BadProgram"),
  xfB K (He.ga K "BadProgram"),
  excB K (He.ga K "BadProgram"),
  supCB K (He.ga K "BadProgram") (He.ga K "BadProgram") (.ref (He.fAd K ("ForkError", some "__init__"))),
  supCB K (He.ga K "BadProgram") (He.ga K "ForkError") (.builtin "ValueError.__init__"),
  He.eqO (PySem.W.findIn K (.ref (He.ga K "BadProgram")) "slot") (some none),
  He.eqO (PySem.W.findIn K (.ref (He.ga K "BadProgram")) "at") (some none),
  He.eqO (PySem.W.findIn K (.ref (He.ga K "BadProgram")) "reason") (some none),
  He.eqO (PySem.W.findIn K (.ref (He.ga K "BadProgram")) "__init__") (some (some (.ref (He.fAd K ("BadProgram", some "__init__"))))),
  decide (PySem.W.typeIn K (.ref (He.fAd K ("BadProgram", some "__init__"))) = some (.type "function")),
  decide (PySem.W.kitOne K (.ref (He.ga K "BadProgram")) (.type "ValueError") = some true),
  decide (PySem.W.exmOne K (.ref (He.ga K "BadProgram")) (.ref (He.ga K "ForkError")) = some true),
  decide (PySem.W.kitOne K (.ref (He.ga K "BadProgram")) (.ref (He.ga K "ForkError")) = some true),
  decide (PySem.W.exmOne K (.ref (He.ga K "BadProgram")) (.ref (He.ga K "BadProgram")) = some true),
  decide (PySem.W.kitOne K (.ref (He.ga K "BadProgram")) (.ref (He.ga K "BadProgram")) = some true),
  decide (PySem.W.exmOne K (.ref (He.ga K "BadProgram")) (.ref (He.ga K "TooMany")) = some false),
  decide (PySem.W.kitOne K (.ref (He.ga K "BadProgram")) (.ref (He.ga K "TooMany")) = some false),
  oexB K (He.ga K "TooMany"),
  xfB K (He.ga K "TooMany"),
  excB K (He.ga K "TooMany"),
  supCB K (He.ga K "TooMany") (He.ga K "TooMany") (.ref (He.fAd K ("ForkError", some "__init__"))),
  supCB K (He.ga K "TooMany") (He.ga K "ForkError") (.builtin "ValueError.__init__"),
  He.eqO (PySem.W.findIn K (.ref (He.ga K "TooMany")) "most") (some none),
  He.eqO (PySem.W.findIn K (.ref (He.ga K "TooMany")) "reason") (some none),
  He.eqO (PySem.W.findIn K (.ref (He.ga K "TooMany")) "__init__") (some (some (.ref (He.fAd K ("TooMany", some "__init__"))))),
  decide (PySem.W.typeIn K (.ref (He.fAd K ("TooMany", some "__init__"))) = some (.type "function")),
  decide (PySem.W.kitOne K (.ref (He.ga K "TooMany")) (.type "ValueError") = some true),
  decide (PySem.W.exmOne K (.ref (He.ga K "TooMany")) (.ref (He.ga K "ForkError")) = some true),
  decide (PySem.W.kitOne K (.ref (He.ga K "TooMany")) (.ref (He.ga K "ForkError")) = some true),
  decide (PySem.W.exmOne K (.ref (He.ga K "TooMany")) (.ref (He.ga K "BadProgram")) = some false),
  decide (PySem.W.kitOne K (.ref (He.ga K "TooMany")) (.ref (He.ga K "BadProgram")) = some false),
  decide (PySem.W.exmOne K (.ref (He.ga K "TooMany")) (.ref (He.ga K "TooMany")) = some true),
  decide (PySem.W.kitOne K (.ref (He.ga K "TooMany")) (.ref (He.ga K "TooMany")) = some true)]
abbrev exB (K : PySem.W.Frag) : Bool := (exs K).all id
structure Txt (K : PySem.W.Frag) (mg : Str → Option Value) (w : World) : Prop where
  hh : ∃ h : Heap, K.In h ∧ h.Ns mainGlobals mg ∧ SaysY fa ts exB fn w h K ∧ SaysS P.main.file fs K
theorem Txt.c {K : PySem.W.Frag} {mg : Str → Option Value} {w : World} (T : Txt K mg w) : SaysY fa ts exB fn w (Classical.choose T.hh) K := (Classical.choose_spec T.hh).2.2.1
theorem Txt.s {K : PySem.W.Frag} {mg : Str → Option Value} {w : World} (T : Txt K mg w) : SaysS P.main.file fs K := (Classical.choose_spec T.hh).2.2.2
theorem Txt.X {K : PySem.W.Frag} {mg : Str → Option Value} {w : World} (T : Txt K mg w) : K.In (Classical.choose T.hh) := (Classical.choose_spec T.hh).1
theorem Txt.G {K : PySem.W.Frag} {mg : Str → Option Value} {w : World} (T : Txt K mg w) : (Classical.choose T.hh).Ns mainGlobals mg := (Classical.choose_spec T.hh).2.1
theorem Txt.ex {K : PySem.W.Frag} {mg : Str → Option Value} {w : World} (T : Txt K mg w) (i : Nat) {b : Bool} (h : (exs K)[i]? = some b) : b = true :=
  List.all_eq_true.mp (show (exs K).all id = true from T.c.more) b (List.mem_of_getElem? h)
section
variable {K : PySem.W.Frag} {mg : Str → Option Value} {w : World}
theorem g_is_statement (T : Txt K mg w) : mg "is_statement" = some (.ref (He.fAd K ("is_statement", none))) := He.glo_ok T.X T.G (T.c.t.d.fact 0 rfl)
theorem g_is_valid (T : Txt K mg w) : mg "is_valid" = some (.ref (He.fAd K ("is_valid", none))) := He.glo_ok T.X T.G (T.c.t.d.fact 1 rfl)
theorem g_bearers (T : Txt K mg w) : mg "bearers" = some (.ref (He.fAd K ("bearers", none))) := He.glo_ok T.X T.G (T.c.t.d.fact 2 rfl)
theorem g__law_start (T : Txt K mg w) : mg "_law_start" = some (.ref (He.fAd K ("_law_start", none))) := He.glo_ok T.X T.G (T.c.t.d.fact 3 rfl)
theorem g__law_draw (T : Txt K mg w) : mg "_law_draw" = some (.ref (He.fAd K ("_law_draw", none))) := He.glo_ok T.X T.G (T.c.t.d.fact 4 rfl)
theorem g__law_is_number (T : Txt K mg w) : mg "_law_is_number" = some (.ref (He.fAd K ("_law_is_number", none))) := He.glo_ok T.X T.G (T.c.t.d.fact 5 rfl)
theorem g__law_same (T : Txt K mg w) : mg "_law_same" = some (.ref (He.fAd K ("_law_same", none))) := He.glo_ok T.X T.G (T.c.t.d.fact 6 rfl)
theorem g__law_is_good (T : Txt K mg w) : mg "_law_is_good" = some (.ref (He.fAd K ("_law_is_good", none))) := He.glo_ok T.X T.G (T.c.t.d.fact 7 rfl)
theorem g__law_program_fault (T : Txt K mg w) : mg "_law_program_fault" = some (.ref (He.fAd K ("_law_program_fault", none))) := He.glo_ok T.X T.G (T.c.t.d.fact 8 rfl)
theorem g__law_bodies_stand (T : Txt K mg w) : mg "_law_bodies_stand" = some (.ref (He.fAd K ("_law_bodies_stand", none))) := He.glo_ok T.X T.G (T.c.t.d.fact 9 rfl)
theorem g__law_drawn_bodies (T : Txt K mg w) : mg "_law_drawn_bodies" = some (.ref (He.fAd K ("_law_drawn_bodies", none))) := He.glo_ok T.X T.G (T.c.t.d.fact 10 rfl)
theorem g__law_odd_statement (T : Txt K mg w) : mg "_law_odd_statement" = some (.ref (He.fAd K ("_law_odd_statement", none))) := He.glo_ok T.X T.G (T.c.t.d.fact 11 rfl)
theorem g__law_changed (T : Txt K mg w) : mg "_law_changed" = some (.ref (He.fAd K ("_law_changed", none))) := He.glo_ok T.X T.G (T.c.t.d.fact 12 rfl)
theorem g__law_program (T : Txt K mg w) : mg "_law_program" = some (.ref (He.fAd K ("_law_program", none))) := He.glo_ok T.X T.G (T.c.t.d.fact 13 rfl)
theorem g__law_attempt (T : Txt K mg w) : mg "_law_attempt" = some (.ref (He.fAd K ("_law_attempt", none))) := He.glo_ok T.X T.G (T.c.t.d.fact 14 rfl)
theorem g__law_refused_by_base (T : Txt K mg w) : mg "_law_refused_by_base" = some (.ref (He.fAd K ("_law_refused_by_base", none))) := He.glo_ok T.X T.G (T.c.t.d.fact 15 rfl)
theorem g__law_made_stands (T : Txt K mg w) : mg "_law_made_stands" = some (.ref (He.fAd K ("_law_made_stands", none))) := He.glo_ok T.X T.G (T.c.t.d.fact 16 rfl)
theorem g_law (T : Txt K mg w) : mg "law" = some (.ref (He.fAd K ("law", none))) := He.glo_ok T.X T.G (T.c.t.d.fact 17 rfl)
theorem g_Program (T : Txt K mg w) : mg "Program" = some (.ref (He.ga K "Program")) := He.glo_ok T.X T.G (T.c.t.d.fact 18 rfl)
theorem c_Program (T : Txt K mg w) : Cls K (He.ga K "Program") := He.cls_ok (T.c.t.d.fact 19 rfl)
theorem M_Program (T : Txt K mg w) : Mk K (He.ga K "Program") (He.fAd K ("Program", some "__init__")) := He.mkr_ok (T.c.t.d.fact 20 rfl)
theorem m_ProgramD__lenD_ (T : Txt K mg w) : Meth K (He.ga K "Program") "__len__" (He.fAd K ("Program", some "__len__")) := He.meth_ok (T.c.t.d.fact 21 rfl)
theorem m_Program_body (T : Txt K mg w) : Meth K (He.ga K "Program") "body" (He.fAd K ("Program", some "body")) := He.meth_ok (T.c.t.d.fact 22 rfl)
theorem na_Program__parents (T : Txt K mg w) : NoAttr K (He.ga K "Program") "_parents" := He.noat_ok (T.c.t.d.fact 23 rfl)
theorem na_Program__bodies (T : Txt K mg w) : NoAttr K (He.ga K "Program") "_bodies" := He.noat_ok (T.c.t.d.fact 24 rfl)
theorem n_ValueError (T : Txt K mg w) : mg "ValueError" = none := He.free_ok T.X T.G (T.c.t.d.fact 25 rfl)
theorem n_bool (T : Txt K mg w) : mg "bool" = none := He.free_ok T.X T.G (T.c.t.d.fact 26 rfl)
theorem n_enumerate (T : Txt K mg w) : mg "enumerate" = none := He.free_ok T.X T.G (T.c.t.d.fact 27 rfl)
theorem n_int (T : Txt K mg w) : mg "int" = none := He.free_ok T.X T.G (T.c.t.d.fact 28 rfl)
theorem n_isinstance (T : Txt K mg w) : mg "isinstance" = none := He.free_ok T.X T.G (T.c.t.d.fact 29 rfl)
theorem n_len (T : Txt K mg w) : mg "len" = none := He.free_ok T.X T.G (T.c.t.d.fact 30 rfl)
theorem n_list (T : Txt K mg w) : mg "list" = none := He.free_ok T.X T.G (T.c.t.d.fact 31 rfl)
theorem n_min (T : Txt K mg w) : mg "min" = none := He.free_ok T.X T.G (T.c.t.d.fact 32 rfl)
theorem n_range (T : Txt K mg w) : mg "range" = none := He.free_ok T.X T.G (T.c.t.d.fact 33 rfl)
theorem n_str (T : Txt K mg w) : mg "str" = none := He.free_ok T.X T.G (T.c.t.d.fact 34 rfl)
theorem n_tuple (T : Txt K mg w) : mg "tuple" = none := He.free_ok T.X T.G (T.c.t.d.fact 35 rfl)
theorem n_super (T : Txt K mg w) : mg "super" = none := He.free_ok T.X T.G (T.c.t.d.fact 36 rfl)
theorem g_DIGITS (T : Txt K mg w) : ∃ t, mg "DIGITS" = some (.str "0123456789" t) := He.str_ok T.X T.G (T.c.t.d.fact 37 rfl)
theorem g_MOST_DIGITS (T : Txt K mg w) : ∃ t, mg "MOST_DIGITS" = some (.int 3 t) := He.int_ok T.X T.G (T.c.t.d.fact 38 rfl)
theorem g_BEAR (T : Txt K mg w) : ∃ t, mg "BEAR" = some (.str "bear" t) := He.str_ok T.X T.G (T.c.t.d.fact 39 rfl)
theorem g_WAITS (T : Txt K mg w) : mg "WAITS" = some (.ref (He.ga K "WAITS")) := He.glo_ok T.X T.G (T.c.t.d.fact 40 rfl)
theorem g_JOINT (T : Txt K mg w) : ∃ t, mg "JOINT" = some (.str "; " t) := He.str_ok T.X T.G (T.c.t.d.fact 41 rfl)
theorem g_ForkError (T : Txt K mg w) : mg "ForkError" = some (.ref (He.ga K "ForkError")) := He.glo_ok T.X T.G (T.c.t.d.fact 42 rfl)
theorem g_BadProgram (T : Txt K mg w) : mg "BadProgram" = some (.ref (He.ga K "BadProgram")) := He.glo_ok T.X T.G (T.c.t.d.fact 43 rfl)
theorem g_TooMany (T : Txt K mg w) : mg "TooMany" = some (.ref (He.ga K "TooMany")) := He.glo_ok T.X T.G (T.c.t.d.fact 44 rfl)
theorem S_ForkError (T : Txt K mg w) : ∃ fd, SupM P K (He.ga K "ForkError") (He.fAd K ("ForkError", some "__init__")) (cdS K (He.fAd K ("ForkError", some "__init__"))) (ccS K (He.fAd K ("ForkError", some "__init__"))) fd "__init__" "ForkError.__init__" (defArgs s_ForkErrorD__initD_) (defBody s_ForkErrorD__initD_) (defScope s_ForkErrorD__initD_) := T.s.sup 0 rfl
theorem S_BadProgram (T : Txt K mg w) : ∃ fd, SupM P K (He.ga K "BadProgram") (He.fAd K ("BadProgram", some "__init__")) (cdS K (He.fAd K ("BadProgram", some "__init__"))) (ccS K (He.fAd K ("BadProgram", some "__init__"))) fd "__init__" "BadProgram.__init__" (defArgs s_BadProgramD__initD_) (defBody s_BadProgramD__initD_) (defScope s_BadProgramD__initD_) := T.s.sup 1 rfl
theorem S_TooMany (T : Txt K mg w) : ∃ fd, SupM P K (He.ga K "TooMany") (He.fAd K ("TooMany", some "__init__")) (cdS K (He.fAd K ("TooMany", some "__init__"))) (ccS K (He.fAd K ("TooMany", some "__init__"))) fd "__init__" "TooMany.__init__" (defArgs s_TooManyD__initD_) (defBody s_TooManyD__initD_) (defScope s_TooManyD__initD_) := T.s.sup 2 rfl
theorem ud_WAITS (T : Txt K mg w) : ∃ o, K.lookup (He.ga K "WAITS") = some o ∧ o.cls = .type "tuple" ∧ o.dict = none := tupDB_ok (T.ex 0 rfl)
theorem u_WAITS (T : Txt K mg w) : ∀ H : Hp, SqT K H (He.ga K "WAITS") [(V.str "wait"), (V.str "any")] := fun H => He.tupB_ok (T.ex 1 rfl) H
theorem con_Program_MOST (T : Txt K mg w) : ∃ u, Con K (He.ga K "Program") "MOST" (V.int 600) u := He.conB_ok (v := (.int 600)) (T.ex 2 rfl)
theorem isc_Program (T : Txt K mg w) : IsC K (He.ga K "Program") := iscB_ok (T.ex 3 rfl)
theorem nothird (T : Txt K mg w) : PySem.W.nsIn K cStatics "thirdparty.any" = some none := He.eqO_ok (T.ex 4 rfl)
theorem ti_base (T : Txt K mg w) : PySem.W.typeIn K (.ref (He.fAd K ("ForkError", some "__init__"))) = some (.type "function") := of_decide_eq_true (T.ex 5 rfl)
theorem fi_base (T : Txt K mg w) : PySem.W.fnIn K (He.fAd K ("ForkError", some "__init__")) = true := T.ex 6 rfl
theorem ox_ForkError (T : Txt K mg w) : OexC K (He.ga K "ForkError") := oexB_ok (T.ex 7 rfl)
theorem xf_ForkError (T : Txt K mg w) : XfC K (He.ga K "ForkError") := xfB_ok (T.ex 8 rfl)
theorem xc_ForkError (T : Txt K mg w) : ExcC K (He.ga K "ForkError") := excB_ok (T.ex 9 rfl)
theorem nf_ForkError_reason (T : Txt K mg w) : PySem.W.findIn K (.ref (He.ga K "ForkError")) "reason" = some none := He.eqO_ok (T.ex 10 rfl)
theorem ii_ForkError (T : Txt K mg w) : PySem.W.findIn K (.ref (He.ga K "ForkError")) "__init__" = some (some (.ref (He.fAd K ("ForkError", some "__init__")))) := He.eqO_ok (T.ex 11 rfl)
theorem ti_ForkError (T : Txt K mg w) : PySem.W.typeIn K (.ref (He.fAd K ("ForkError", some "__init__"))) = some (.type "function") := of_decide_eq_true (T.ex 12 rfl)
theorem kitV_ForkError (T : Txt K mg w) : PySem.W.kitOne K (.ref (He.ga K "ForkError")) (.type "ValueError") = some true := of_decide_eq_true (T.ex 13 rfl)
theorem exm_ForkError_ForkError (T : Txt K mg w) : PySem.W.exmOne K (.ref (He.ga K "ForkError")) (.ref (He.ga K "ForkError")) = some true := of_decide_eq_true (T.ex 14 rfl)
theorem kit_ForkError_ForkError (T : Txt K mg w) : PySem.W.kitOne K (.ref (He.ga K "ForkError")) (.ref (He.ga K "ForkError")) = some true := of_decide_eq_true (T.ex 15 rfl)
theorem exm_ForkError_BadProgram (T : Txt K mg w) : PySem.W.exmOne K (.ref (He.ga K "ForkError")) (.ref (He.ga K "BadProgram")) = some false := of_decide_eq_true (T.ex 16 rfl)
theorem kit_ForkError_BadProgram (T : Txt K mg w) : PySem.W.kitOne K (.ref (He.ga K "ForkError")) (.ref (He.ga K "BadProgram")) = some false := of_decide_eq_true (T.ex 17 rfl)
theorem exm_ForkError_TooMany (T : Txt K mg w) : PySem.W.exmOne K (.ref (He.ga K "ForkError")) (.ref (He.ga K "TooMany")) = some false := of_decide_eq_true (T.ex 18 rfl)
theorem kit_ForkError_TooMany (T : Txt K mg w) : PySem.W.kitOne K (.ref (He.ga K "ForkError")) (.ref (He.ga K "TooMany")) = some false := of_decide_eq_true (T.ex 19 rfl)
theorem ox_BadProgram (T : Txt K mg w) : OexC K (He.ga K "BadProgram") := oexB_ok (T.ex 20 rfl)
theorem xf_BadProgram (T : Txt K mg w) : XfC K (He.ga K "BadProgram") := xfB_ok (T.ex 21 rfl)
theorem xc_BadProgram (T : Txt K mg w) : ExcC K (He.ga K "BadProgram") := excB_ok (T.ex 22 rfl)
theorem sc_BadProgram (T : Txt K mg w) : SupC K (He.ga K "BadProgram") (He.ga K "BadProgram") (.ref (He.fAd K ("ForkError", some "__init__"))) := supCB_ok (T.ex 23 rfl)
theorem scb_BadProgram (T : Txt K mg w) : SupC K (He.ga K "BadProgram") (He.ga K "ForkError") (.builtin "ValueError.__init__") := supCB_ok (T.ex 24 rfl)
theorem nf_BadProgram_slot (T : Txt K mg w) : PySem.W.findIn K (.ref (He.ga K "BadProgram")) "slot" = some none := He.eqO_ok (T.ex 25 rfl)
theorem nf_BadProgram_at (T : Txt K mg w) : PySem.W.findIn K (.ref (He.ga K "BadProgram")) "at" = some none := He.eqO_ok (T.ex 26 rfl)
theorem nf_BadProgram_reason (T : Txt K mg w) : PySem.W.findIn K (.ref (He.ga K "BadProgram")) "reason" = some none := He.eqO_ok (T.ex 27 rfl)
theorem ii_BadProgram (T : Txt K mg w) : PySem.W.findIn K (.ref (He.ga K "BadProgram")) "__init__" = some (some (.ref (He.fAd K ("BadProgram", some "__init__")))) := He.eqO_ok (T.ex 28 rfl)
theorem ti_BadProgram (T : Txt K mg w) : PySem.W.typeIn K (.ref (He.fAd K ("BadProgram", some "__init__"))) = some (.type "function") := of_decide_eq_true (T.ex 29 rfl)
theorem kitV_BadProgram (T : Txt K mg w) : PySem.W.kitOne K (.ref (He.ga K "BadProgram")) (.type "ValueError") = some true := of_decide_eq_true (T.ex 30 rfl)
theorem exm_BadProgram_ForkError (T : Txt K mg w) : PySem.W.exmOne K (.ref (He.ga K "BadProgram")) (.ref (He.ga K "ForkError")) = some true := of_decide_eq_true (T.ex 31 rfl)
theorem kit_BadProgram_ForkError (T : Txt K mg w) : PySem.W.kitOne K (.ref (He.ga K "BadProgram")) (.ref (He.ga K "ForkError")) = some true := of_decide_eq_true (T.ex 32 rfl)
theorem exm_BadProgram_BadProgram (T : Txt K mg w) : PySem.W.exmOne K (.ref (He.ga K "BadProgram")) (.ref (He.ga K "BadProgram")) = some true := of_decide_eq_true (T.ex 33 rfl)
theorem kit_BadProgram_BadProgram (T : Txt K mg w) : PySem.W.kitOne K (.ref (He.ga K "BadProgram")) (.ref (He.ga K "BadProgram")) = some true := of_decide_eq_true (T.ex 34 rfl)
theorem exm_BadProgram_TooMany (T : Txt K mg w) : PySem.W.exmOne K (.ref (He.ga K "BadProgram")) (.ref (He.ga K "TooMany")) = some false := of_decide_eq_true (T.ex 35 rfl)
theorem kit_BadProgram_TooMany (T : Txt K mg w) : PySem.W.kitOne K (.ref (He.ga K "BadProgram")) (.ref (He.ga K "TooMany")) = some false := of_decide_eq_true (T.ex 36 rfl)
theorem ox_TooMany (T : Txt K mg w) : OexC K (He.ga K "TooMany") := oexB_ok (T.ex 37 rfl)
theorem xf_TooMany (T : Txt K mg w) : XfC K (He.ga K "TooMany") := xfB_ok (T.ex 38 rfl)
theorem xc_TooMany (T : Txt K mg w) : ExcC K (He.ga K "TooMany") := excB_ok (T.ex 39 rfl)
theorem sc_TooMany (T : Txt K mg w) : SupC K (He.ga K "TooMany") (He.ga K "TooMany") (.ref (He.fAd K ("ForkError", some "__init__"))) := supCB_ok (T.ex 40 rfl)
theorem scb_TooMany (T : Txt K mg w) : SupC K (He.ga K "TooMany") (He.ga K "ForkError") (.builtin "ValueError.__init__") := supCB_ok (T.ex 41 rfl)
theorem nf_TooMany_most (T : Txt K mg w) : PySem.W.findIn K (.ref (He.ga K "TooMany")) "most" = some none := He.eqO_ok (T.ex 42 rfl)
theorem nf_TooMany_reason (T : Txt K mg w) : PySem.W.findIn K (.ref (He.ga K "TooMany")) "reason" = some none := He.eqO_ok (T.ex 43 rfl)
theorem ii_TooMany (T : Txt K mg w) : PySem.W.findIn K (.ref (He.ga K "TooMany")) "__init__" = some (some (.ref (He.fAd K ("TooMany", some "__init__")))) := He.eqO_ok (T.ex 44 rfl)
theorem ti_TooMany (T : Txt K mg w) : PySem.W.typeIn K (.ref (He.fAd K ("TooMany", some "__init__"))) = some (.type "function") := of_decide_eq_true (T.ex 45 rfl)
theorem kitV_TooMany (T : Txt K mg w) : PySem.W.kitOne K (.ref (He.ga K "TooMany")) (.type "ValueError") = some true := of_decide_eq_true (T.ex 46 rfl)
theorem exm_TooMany_ForkError (T : Txt K mg w) : PySem.W.exmOne K (.ref (He.ga K "TooMany")) (.ref (He.ga K "ForkError")) = some true := of_decide_eq_true (T.ex 47 rfl)
theorem kit_TooMany_ForkError (T : Txt K mg w) : PySem.W.kitOne K (.ref (He.ga K "TooMany")) (.ref (He.ga K "ForkError")) = some true := of_decide_eq_true (T.ex 48 rfl)
theorem exm_TooMany_BadProgram (T : Txt K mg w) : PySem.W.exmOne K (.ref (He.ga K "TooMany")) (.ref (He.ga K "BadProgram")) = some false := of_decide_eq_true (T.ex 49 rfl)
theorem kit_TooMany_BadProgram (T : Txt K mg w) : PySem.W.kitOne K (.ref (He.ga K "TooMany")) (.ref (He.ga K "BadProgram")) = some false := of_decide_eq_true (T.ex 50 rfl)
theorem exm_TooMany_TooMany (T : Txt K mg w) : PySem.W.exmOne K (.ref (He.ga K "TooMany")) (.ref (He.ga K "TooMany")) = some true := of_decide_eq_true (T.ex 51 rfl)
theorem kit_TooMany_TooMany (T : Txt K mg w) : PySem.W.kitOne K (.ref (He.ga K "TooMany")) (.ref (He.ga K "TooMany")) = some true := of_decide_eq_true (T.ex 52 rfl)
theorem F_is_statement (T : Txt K mg w) : FnIs K "is_statement" "is_statement" s_is_statement (He.fAd K ("is_statement", none)) := T.c.def_ 0 rfl
theorem F_is_valid (T : Txt K mg w) : FnIs K "is_valid" "is_valid" s_is_valid (He.fAd K ("is_valid", none)) := T.c.def_ 1 rfl
theorem F_bearers (T : Txt K mg w) : FnIs K "bearers" "bearers" s_bearers (He.fAd K ("bearers", none)) := T.c.def_ 2 rfl
theorem F_ProgramD__initD_ (T : Txt K mg w) : FnIs K "__init__" "Program.__init__" s_ProgramD__initD_ (He.fAd K ("Program", some "__init__")) := T.c.def_ 3 rfl
theorem F_ProgramD__lenD_ (T : Txt K mg w) : FnIs K "__len__" "Program.__len__" s_ProgramD__lenD_ (He.fAd K ("Program", some "__len__")) := T.c.def_ 4 rfl
theorem F_Program_body (T : Txt K mg w) : FnIs K "body" "Program.body" s_Program_body (He.fAd K ("Program", some "body")) := T.c.def_ 5 rfl
theorem F__law_start (T : Txt K mg w) : FnIs K "_law_start" "_law_start" s__law_start (He.fAd K ("_law_start", none)) := T.c.def_ 6 rfl
theorem F__law_draw (T : Txt K mg w) : FnIs K "_law_draw" "_law_draw" s__law_draw (He.fAd K ("_law_draw", none)) := T.c.def_ 7 rfl
theorem F__law_is_number (T : Txt K mg w) : FnIs K "_law_is_number" "_law_is_number" s__law_is_number (He.fAd K ("_law_is_number", none)) := T.c.def_ 8 rfl
theorem F__law_same (T : Txt K mg w) : FnIs K "_law_same" "_law_same" s__law_same (He.fAd K ("_law_same", none)) := T.c.def_ 9 rfl
theorem F__law_is_good (T : Txt K mg w) : FnIs K "_law_is_good" "_law_is_good" s__law_is_good (He.fAd K ("_law_is_good", none)) := T.c.def_ 10 rfl
theorem F__law_program_fault (T : Txt K mg w) : FnIs K "_law_program_fault" "_law_program_fault" s__law_program_fault (He.fAd K ("_law_program_fault", none)) := T.c.def_ 11 rfl
theorem F__law_bodies_stand (T : Txt K mg w) : FnIs K "_law_bodies_stand" "_law_bodies_stand" s__law_bodies_stand (He.fAd K ("_law_bodies_stand", none)) := T.c.def_ 12 rfl
theorem F__law_drawn_bodies (T : Txt K mg w) : FnIs K "_law_drawn_bodies" "_law_drawn_bodies" s__law_drawn_bodies (He.fAd K ("_law_drawn_bodies", none)) := T.c.def_ 13 rfl
theorem F__law_odd_statement (T : Txt K mg w) : FnIs K "_law_odd_statement" "_law_odd_statement" s__law_odd_statement (He.fAd K ("_law_odd_statement", none)) := T.c.def_ 14 rfl
theorem F__law_changed (T : Txt K mg w) : FnIs K "_law_changed" "_law_changed" s__law_changed (He.fAd K ("_law_changed", none)) := T.c.def_ 15 rfl
theorem F__law_program (T : Txt K mg w) : FnIs K "_law_program" "_law_program" s__law_program (He.fAd K ("_law_program", none)) := T.c.def_ 16 rfl
theorem F__law_attempt (T : Txt K mg w) : FnIs K "_law_attempt" "_law_attempt" s__law_attempt (He.fAd K ("_law_attempt", none)) := T.c.def_ 17 rfl
theorem F__law_refused_by_base (T : Txt K mg w) : FnIs K "_law_refused_by_base" "_law_refused_by_base" s__law_refused_by_base (He.fAd K ("_law_refused_by_base", none)) := T.c.def_ 18 rfl
theorem F__law_made_stands (T : Txt K mg w) : FnIs K "_law_made_stands" "_law_made_stands" s__law_made_stands (He.fAd K ("_law_made_stands", none)) := T.c.def_ 19 rfl
theorem F_law (T : Txt K mg w) : FnIs K "law" "law" s_law (He.fAd K ("law", none)) := T.c.def_ 20 rfl
end
end Fk
set_option maxHeartbeats 0
namespace Fk
open PySem PySem.W PySem.Calls PyProof.Rows
def loose : List PySem.Str := (["_wall", "ForkError", "BadText", "NoTask", "TooMany", "BadProgram", "DIGITS", "MOST_DIGITS", "read_number", "BEAR", "WAITS", "JOINT", "is_statement", "read_statement", "read_body", "statement_text", "is_valid", "bearers", "Program", "_law_start", "_law_draw", "_law_is_number", "_law_same", "_law_is_good", "_law_program_fault", "_law_bodies_stand", "_law_drawn_bodies", "_law_odd_statement", "_law_changed", "_law_program"] : List PySem.Str) ++ (["_law_attempt", "_law_refused_by_base", "_law_made_stands"] : List PySem.Str)
abbrev R : PySem.W.OpenRow := PySem.W.OpenLaw.row PySem.Challenge.rw_forkwaits_k63_programs_are_made
abbrev asf : Fw.AsF := Fw.asS ((["is_statement", "is_valid", "bearers", "_law_start", "_law_draw", "_law_is_number", "_law_same", "_law_is_good", "_law_program_fault", "_law_bodies_stand", "_law_drawn_bodies", "_law_odd_statement", "_law_changed", "_law_program", "_law_attempt", "_law_refused_by_base", "_law_made_stands", "law", "WAITS"] : List PySem.Str)) ["BadProgram", "ForkError", "Program", "TooMany"] (([("Program", "__init__"), ("Program", "__len__"), ("Program", "body"), ("ForkError", "__init__"), ("BadProgram", "__init__"), ("TooMany", "__init__")] : List (PySem.Str × PySem.Str)))
abbrev hk : PySem.W.Hook := Fw.hookE asf fa ts exB fn P.main.file fs
def ob (s : PySem.W.SharedT) : Fw.AlE := Fw.obsE asf fa ts exB fn P.main.file fs (HandSHeadRun.getT s)
theorem ob_eq (s : PySem.W.SharedT) : ob s = hk.obs s.abs := Fw.obsE_eq (HandSHeadRun.getT_eq s)
theorem run0 (w : World) : HandSHeadRun.RunEq R (PySem.W.view R.prog [37]) hk ob 9000 loose (w.withFollow "special-get-raises" false) := by
  refine fun os => ?_
  kernel_rfl
theorem run1 (w : World) : HandSHeadRun.RunEq R (PySem.W.view R.prog [37]) hk ob 9000 loose (w.withFollow "special-get-raises" true) := by
  refine fun os => ?_
  kernel_rfl
theorem run (w : World) : HandSHeadRun.RunEq R (PySem.W.view R.prog [37]) hk ob 9000 loose w :=
  byRow2 "special-get-raises" (P := fun w => HandSHeadRun.RunEq R (PySem.W.view R.prog [37]) hk ob 9000 loose w) run0 run1 w
end Fk
set_option maxHeartbeats 4000000
namespace Fw
open PySem PySem.Spec PyProof.Rows L2
/-! ### kins, plainly -/
def fitsB (u d : Int) (s : Str) : Bool := if u = 0 ∨ d = 0 then decide (s = "line") else decide (s = "elder") || decide (s = "younger")
def rankS (s : Str) : Int := if s = "line" then 0 else if s = "elder" then 1 else 2
def kinF (u d : Int) (s : Str) : List (Str × V) := [("up", .int u), ("down", .int d), ("side", .str s), ("far", .int (u + d)), ("rank", .int (rankS s))]
structure KV (u d : Int) (s : Str) : Prop where
  u0 : 0 ≤ u
  u1 : u ≤ 999
  d0 : 0 ≤ d
  d1 : d ≤ 999
  fit : fitsB u d s = true
def kms (u d : Int) (s : Str) : List Int := [u + d, u, rankS s]
abbrev sides : List V := [.str "line", .str "elder", .str "younger"]
theorem KV.side {u d : Int} {s : Str} (k : KV u d s) : s = "line" ∨ s = "elder" ∨ s = "younger" := by
  have h := k.fit
  unfold fitsB at h
  split at h
  · exact .inl (of_decide_eq_true h)
  · rw [Bool.or_eq_true] at h
    exact .inr (h.imp of_decide_eq_true of_decide_eq_true)
/-- where a side stands among the sides -/
theorem side_at {s : Str} (h : s = "line" ∨ s = "elder" ∨ s = "younger") : ∃ j : Nat, rankS s = (j : Int) ∧ sides[j]? = some (.str s) ∧ flatV (.str s) = true ∧ eqV (.str s) (.str s) = true ∧ ∀ (m : Nat) (z' : V), m < j → sides[m]? = some z' → eqV z' (.str s) = false := by
  rcases h with rfl | rfl | rfl
  · exact ⟨0, by decide, rfl, rfl, by decide, fun m z' h _ => by omega⟩
  · refine ⟨1, by decide, rfl, rfl, by decide, fun m z' h e => ?_⟩
    have : m = 0 := by omega
    subst this
    cases e
    decide
  · refine ⟨2, by decide, rfl, rfl, by decide, fun m z' h e => ?_⟩
    have : m = 0 ∨ m = 1 := by omega
    rcases this with rfl | rfl <;> (cases e; decide)
theorem lexI_flip {r : Int → Int → Bool} {z : Nat → Nat → Bool} : ∀ {xs ys : List Int}, xs.length = ys.length → lexI r z ys xs = lexI (fun a b => r b a) (fun a b => z b a) xs ys
  | [], [], _ => rfl
  | x :: xs, y :: ys, h => by
    show (if y = x then _ else _) = (if x = y then _ else _)
    by_cases e : x = y
    · rw [if_pos e.symm, if_pos e]; exact lexI_flip (Nat.succ.inj h)
    · rw [if_neg (fun z => e z.symm), if_neg e]
def dms (xs : List Int) : PyData := .tuple (xs.map .int)
abbrev KinA (K : PySem.W.Frag) (S : Dst) (H : Hp) (a : Addr) (u d : Int) (s : Str) : Prop := IA S H a (He.ga K "Kin") (kinF u d s)
/-! ### what the defs promise -/
def a_fits : List V → Hp → Dst → (V → Hp → Prop) → Prop := fun vs _ S PP => S = none ∧ ∃ u d s, vs = [.int u, .int d, .str s] ∧ PP = fun v _ => v = .bl (fitsB u d s)
def a_kin : List V → List (Str × V) → Hp → Prop := fun vs fs _ => ∃ u d s, vs = [.int u, .int d, .str s] ∧ KV u d s ∧ fs = kinF u d s
def a_measure (K : PySem.W.Frag) : List V → Hp → Dst → (V → Hp → Prop) → Prop := fun vs H S PP => S = none ∧ ∃ a u d s, vs = [.ref a] ∧ KinA K none H a u d s ∧ PP = NewU none H ((kms u d s).map V.int)
def a_kcmp (K : PySem.W.Frag) (r : List Int → List Int → Bool) : List V → Hp → Dst → (V → Hp → Prop) → Prop := fun vs H S PP => S = none ∧ ∃ a b u d s u' d' s', vs = [.ref a, .ref b] ∧ KinA K none H a u d s ∧ KinA K none H b u' d' s' ∧ PP = fun v _ => v = .bl (r (kms u d s) (kms u' d' s'))
abbrev ltL : List Int → List Int → Bool := lexI (fun a b => decide (a < b)) (fun a b => decide (a < b))
abbrev leL : List Int → List Int → Bool := lexI (fun a b => decide (a ≤ b)) (fun a b => decide (a ≤ b))
abbrev eqL : List Int → List Int → Bool := fun x y => PyData.eqv (dms x) (dms y)
end Fw
namespace Fw
open PySem PySem.Spec PyProof.Rows L2
theorem Lx.nsU {S : Dst} {H H1 : Hp} {a : Addr} {xs : List V} (e : Lx S H H1) (h : H1 a = some (.tup xs)) : ¬ Sx S a := fun ⟨q, hq, hp⟩ => by
  obtain ⟨_, _, _, _, _, h1, _, h2⟩ := e.2 q hq
  rcases hp with rfl | rfl
  · rw [h] at h1; cases h1
  · rw [h] at h2; cases h2
abbrev pv (u d : Int) (s : Str) : List V := [.int u, .int d, .str s]
/-- a row (up, down, side) at p -/
structure Row (S : Dst) (H : Hp) (v : V) (u d : Int) (s : Str) : Prop where
  q : ∃ p, v = .ref p ∧ H p = some (.tup (pv u d s)) ∧ ¬ Sx S p
theorem Row.mono {S : Dst} {H H1 : Hp} {v : V} {u d : Int} {s : Str} (h : Row S H v u d s) (e : Lx S H H1) : Row S H1 v u d s := by
  obtain ⟨p, rfl, hp, n⟩ := h
  exact ⟨p, rfl, e.1 _ _ n hp, n⟩
theorem Row.to0 {S : Dst} {H : Hp} {v : V} {u d : Int} {s : Str} (h : Row S H v u d s) : Row none H v u d s := by
  obtain ⟨p, rfl, hp, n⟩ := h
  exact ⟨p, rfl, hp, sx_none⟩
theorem Row.up {S : Dst} {H H1 : Hp} {v : V} {u d : Int} {s : Str} (e : Lx S H H1) (h : Row none H1 v u d s) : Row S H1 v u d s := by
  obtain ⟨p, rfl, hp, _⟩ := h
  exact ⟨p, rfl, hp, e.nsU hp⟩
section
variable {K : PySem.W.Frag} {S : Dst} {σ : L2.St} {H : Hp} {te : TE} {v : V} {u d : Int} {s : Str}
theorem Row.ev0 (h : Ev K S te σ H v) (r : Row S H v u d s) : Ev K S (tOp (rIxT K) te (tC (.int 0))) σ H (.int u) := by
  obtain ⟨p, rfl, hp, n⟩ := r
  exact ev_op h ev_c (rv_ixT (UA.of hp n) rfl)
theorem Row.ev1 (h : Ev K S te σ H v) (r : Row S H v u d s) : Ev K S (tOp (rIxT K) te (tC (.int 1))) σ H (.int d) := by
  obtain ⟨p, rfl, hp, n⟩ := r
  exact ev_op h ev_c (rv_ixT (UA.of hp n) rfl)
theorem Row.ev2 (h : Ev K S te σ H v) (r : Row S H v u d s) : Ev K S (tOp (rIxT K) te (tC (.int 2))) σ H (.str s) := by
  obtain ⟨p, rfl, hp, n⟩ := r
  exact ev_op h ev_c (rv_ixT (UA.of hp n) rfl)
end
def sidesL (u d : Int) : List V := if u = 0 ∨ d = 0 then [.str "line"] else [.str "elder", .str "younger"]
theorem sides_len (u d : Int) : (sidesL u d).length = 1 ∨ (sidesL u d).length = 2 := by unfold sidesL; split <;> simp
theorem sides_get {u d : Int} {j : Int} (h0 : 0 ≤ j) (h1 : j < ((sidesL u d).length : Int)) : ∃ s, atI (sidesL u d) j = some (.str s) ∧ fitsB u d s = true := by
  unfold sidesL at h1 ⊢
  unfold fitsB
  by_cases h : u = 0 ∨ d = 0
  · rw [if_pos h] at h1
    simp only [if_pos h]
    have : j = 0 := by simp at h1; omega
    subst this
    exact ⟨"line", rfl, by decide⟩
  · rw [if_neg h] at h1
    simp only [if_neg h]
    have : j = 0 ∨ j = 1 := by simp at h1; omega
    rcases this with rfl | rfl
    · exact ⟨"elder", rfl, by decide⟩
    · exact ⟨"younger", rfl, by decide⟩
def otherS (s : Str) : Str := if s = "elder" then "younger" else if s = "younger" then "elder" else s
theorem KV.minus {u d : Int} {s : Str} (k : KV u d s) : KV d u (otherS s) := by
  refine ⟨k.d0, k.d1, k.u0, k.u1, ?_⟩
  have h := k.fit
  unfold fitsB at h ⊢
  by_cases z : u = 0 ∨ d = 0
  · rw [if_pos z] at h
    rw [if_pos (by omega)]
    rw [of_decide_eq_true h]
    decide
  · rw [if_neg z] at h
    rw [if_neg (by omega)]
    rw [Bool.or_eq_true] at h
    rcases h with h | h
    · rw [of_decide_eq_true h]; decide
    · rw [of_decide_eq_true h]; decide
/-- the first counts with the minus kin's side are a kin, too -/
theorem KV.other {u d : Int} {s : Str} (k : KV u d s) : KV u d (otherS s) := by
  have h := k.minus.fit
  refine ⟨k.u0, k.u1, k.d0, k.d1, ?_⟩
  unfold fitsB at h ⊢
  by_cases z : u = 0 ∨ d = 0
  · rw [if_pos (by omega)] at h; rw [if_pos z]; exact h
  · rw [if_neg (by omega)] at h; rw [if_neg z]; exact h
end Fw

namespace Fw
open PySem PySem.Spec PyProof.Rows L2
/-! ### cells, plainly -/
abbrev KT := Int × Int × Str
def capI (x r : Int) : Int := if x < r then x else r
def keyT (k : KT) : List Key := [.inl k.1, .inl k.2.1, .inr k.2.2]
theorem keyT_inj {k k' : KT} (h : keyT k = keyT k') : k = k' := by
  obtain ⟨u, d, s⟩ := k
  obtain ⟨u', d', s'⟩ := k'
  simp [keyT] at h
  obtain ⟨h1, h2, h3⟩ := h
  subst h1 h2 h3
  rfl
abbrev KVk (k : KT) : Prop := KV k.1 k.2.1 k.2.2
def capK (r : Int) (k : KT) : KT := (capI k.1 r, capI k.2.1 r, k.2.2)
def farUp (r : Int) (far up : Nat) : List KT :=
  let down : Int := far - up
  if down < 0 ∨ down > r then [] else if (up : Int) = 0 ∨ down = 0 then [((up : Int), down, "line")] else [((up : Int), down, "elder"), ((up : Int), down, "younger")]
/-- the cells of a reach, in order: by far, then up -/
def farRow (r : Nat) (far : Nat) : List KT := (List.range (r + 1)).flatMap fun up => farUp r far up
def cellsOf (r : Nat) : List KT := (List.range (2 * r)).flatMap fun i => farRow r (i + 1)
theorem farUp_kv {r : Nat} (hr : r ≤ 4) {far up : Nat} (hu : up ≤ r) {k : KT} (h : k ∈ farUp r far up) : KVk k ∧ k.1 ≤ r ∧ k.2.1 ≤ r ∧ k.1 + k.2.1 = far := by
  unfold farUp at h
  dsimp only at h
  split at h
  · cases h
  · rename_i h1
    split at h
    · rename_i h2
      rw [List.mem_singleton] at h
      subst h
      refine ⟨⟨by dsimp only; omega, by dsimp only; omega, by dsimp only; omega, by dsimp only; omega, ?_⟩, by dsimp only; omega, by dsimp only; omega, by dsimp only; omega⟩
      unfold fitsB
      dsimp only
      rw [if_pos h2]
      exact decide_eq_true rfl
    · rename_i h2
      have f : ∀ s : Str, (s = "elder" ∨ s = "younger") → fitsB up ((far : Int) - up) s = true := by
        intro s hs
        unfold fitsB
        rw [if_neg h2]
        rcases hs with rfl | rfl <;> decide
      simp only [List.mem_cons, List.mem_nil_iff, or_false] at h
      rcases h with rfl | rfl
      · exact ⟨⟨by dsimp only; omega, by dsimp only; omega, by dsimp only; omega, by dsimp only; omega, f _ (.inl rfl)⟩, by dsimp only; omega, by dsimp only; omega, by dsimp only; omega⟩
      · exact ⟨⟨by dsimp only; omega, by dsimp only; omega, by dsimp only; omega, by dsimp only; omega, f _ (.inr rfl)⟩, by dsimp only; omega, by dsimp only; omega, by dsimp only; omega⟩
theorem cells_kv {r : Nat} (hr : r ≤ 4) {k : KT} (h : k ∈ cellsOf r) : KVk k ∧ k.1 ≤ r ∧ k.2.1 ≤ r ∧ 1 ≤ k.1 + k.2.1 := by
  unfold cellsOf farRow at h
  rw [List.mem_flatMap] at h
  obtain ⟨i, hi, h⟩ := h
  rw [List.mem_flatMap] at h
  obtain ⟨up, hu, h⟩ := h
  rw [List.mem_range] at hi hu
  obtain ⟨a, b, c, d⟩ := farUp_kv hr (by omega) h
  exact ⟨a, b, c, by omega⟩
def ltK (k k' : KT) : Bool := ltL (kms k.1 k.2.1 k.2.2) (kms k'.1 k'.2.1 k'.2.2)
def placeK (rows : List KT) (c : KT) : Nat := (rows.takeWhile fun k => ltK k c).length
def putR (rows : List KT) (c : KT) : List KT := if rows.contains c then rows else rows.take (placeK rows c) ++ [c] ++ rows.drop (placeK rows c)
theorem mem_putR {rows : List KT} {c k : KT} : k ∈ putR rows c ↔ k ∈ rows ∨ k = c := by
  unfold putR
  by_cases h : rows.contains c = true
  · rw [if_pos h]
    rw [List.contains_iff_mem] at h
    constructor
    · exact .inl
    · rintro (h2 | rfl)
      · exact h2
      · exact h
  · rw [if_neg h]
    have e : k ∈ rows ↔ k ∈ rows.take (placeK rows c) ∨ k ∈ rows.drop (placeK rows c) := by rw [← List.mem_append, List.take_append_drop]
    rw [List.mem_append, List.mem_append, List.mem_singleton, e]
    constructor
    · rintro ((h | h) | h)
      · exact .inl (.inl h)
      · exact .inr h
      · exact .inl (.inr h)
    · rintro ((h | h) | h)
      · exact .inl (.inl h)
      · exact .inr h
      · exact .inl (.inr h)
/-! ### lists of kins, a rule, in the heap -/
/-- items that are kins -/
def KinsL (K : PySem.W.Frag) (S : Dst) (H : Hp) (ys : List V) (ks : List KT) : Prop := ys.length = ks.length ∧ ∀ (i : Nat) (y : V) (k : KT), ys[i]? = some y → ks[i]? = some k → ∃ b, y = .ref b ∧ KinA K S H b k.1 k.2.1 k.2.2
section
variable {K : PySem.W.Frag} {S : Dst} {H H1 : Hp} {ys : List V} {ks : List KT}
theorem KinsL.mono (h : KinsL K S H ys ks) (e : Lx S H H1) : KinsL K S H1 ys ks := ⟨h.1, fun i y k a b => let ⟨p, q, r⟩ := h.2 i y k a b; ⟨p, q, r.mono e⟩⟩
theorem KinsL.nil : KinsL K S H [] [] := ⟨rfl, fun i y k a _ => by simp at a⟩
theorem KinsL.snoc {b : Addr} {k : KT} (h : KinsL K S H ys ks) (hb : KinA K S H b k.1 k.2.1 k.2.2) : KinsL K S H (ys ++ [.ref b]) (ks ++ [k]) := by
  refine ⟨by simp [h.1], fun i y k' a c => ?_⟩
  by_cases hi : i < ys.length
  · rw [List.getElem?_append_left hi] at a
    rw [List.getElem?_append_left (by rw [← h.1]; exact hi)] at c
    exact h.2 i y k' a c
  · have h2 := (List.getElem?_eq_some_iff.mp a).1
    rw [List.length_append] at h2
    have e : i = ys.length := by simp at h2; omega
    subst e
    rw [h.1] at c
    simp at a c
    subst a c
    exact ⟨b, rfl, hb⟩
theorem KinsL.stab {D : Addr} {us ws : List V} (hD : H D = some (.lst us)) (h : KinsL K S H ys ks) : KinsL K S (upd H D (.lst ws)) ys ks := ⟨h.1, fun i y k a b => let ⟨p, q, r⟩ := h.2 i y k a b; ⟨p, q, r.stab hD⟩⟩
theorem KinsL.get {i : Nat} {k : KT} (h : KinsL K S H ys ks) (hk : ks[i]? = some k) : ∃ b, ys[i]? = some (.ref b) ∧ KinA K S H b k.1 k.2.1 k.2.2 := by
  have hi := (List.getElem?_eq_some_iff.mp hk).1
  have hy := List.getElem?_eq_getElem (l := ys) (i := i) (by rw [h.1]; exact hi)
  obtain ⟨b, e, q⟩ := h.2 i _ k hy hk
  exact ⟨b, by rw [hy, e], q⟩
end
abbrev ruleF (r : Int) (d l : Addr) : List (Str × V) := [("_reach", .int r), ("_let", .ref d), ("_rows", .ref l)]
/-- a rule: its reach, its cells in order -/
structure RuleA (K : PySem.W.Frag) (S : Dst) (H : Hp) (a : Addr) (r : Nat) (rows : List KT) (d l : Addr) : Prop where
  obj : IA S H a (He.ga K "Rule") (ruleF r d l)
  dic : ∃ kvs, H d = some (.dT kvs) ∧ kvs.length ≤ rows.length + 1000 ∧ ∀ k : KT, (valV kvs (keyT k)).isSome = rows.contains k
  nd : ¬ Sx S d
  lst : ∃ ys, H l = some (.lst ys) ∧ KinsL K S H ys rows
  nl : ¬ Sx S l
  r0 : 1 ≤ r
  r1 : r ≤ 4
  ok : ∀ k ∈ rows, k ∈ cellsOf r
  nd2 : rows.Nodup
theorem KV.cap {u d : Int} {s : Str} {r : Int} (k : KV u d s) (h1 : 1 ≤ r) (h2 : r ≤ 4) : KV (capI u r) (capI d r) s := by
  have a := k.u0
  have b := k.d0
  have f := k.fit
  have e1 : capI u r = 0 ↔ u = 0 := by unfold capI; split <;> omega
  have e2 : capI d r = 0 ↔ d = 0 := by unfold capI; split <;> omega
  refine ⟨by unfold capI; split <;> omega, by unfold capI; split <;> omega, by unfold capI; split <;> omega, by unfold capI; split <;> omega, ?_⟩
  unfold fitsB at f ⊢
  simp only [e1, e2]
  exact f
theorem capI_id {x r : Int} (h : x ≤ r) : capI x r = x := by unfold capI; split <;> omega
theorem capI_le {x r : Int} (h : 0 ≤ r) : capI x r ≤ r := by unfold capI; split <;> omega
theorem capK_id {r : Int} {k : KT} (h1 : k.1 ≤ r) (h2 : k.2.1 ≤ r) : capK r k = k := by
  obtain ⟨u, d, s⟩ := k
  unfold capK
  rw [capI_id h1, capI_id h2]
theorem mem_cells {r : Nat} {k : KT} (kv : KVk k) (h1 : k.1 ≤ r) (h2 : k.2.1 ≤ r) (h3 : k.1 + k.2.1 ≠ 0) : k ∈ cellsOf r := by
  obtain ⟨u, d, s⟩ := k
  have a := kv.u0
  have b := kv.d0
  have f := kv.fit
  dsimp only at a b f h1 h2 h3
  obtain ⟨un, rfl⟩ : ∃ n : Nat, u = n := ⟨u.toNat, by omega⟩
  obtain ⟨dn, rfl⟩ : ∃ n : Nat, d = n := ⟨d.toNat, by omega⟩
  unfold cellsOf farRow
  rw [List.mem_flatMap]
  refine ⟨un + dn - 1, by rw [List.mem_range]; omega, ?_⟩
  rw [List.mem_flatMap]
  refine ⟨un, by rw [List.mem_range]; omega, ?_⟩
  have e : (((un + dn - 1 + 1 : Nat) : Int) - (un : Int)) = (dn : Int) := by omega
  unfold farUp
  dsimp only
  rw [e, if_neg (by omega)]
  unfold fitsB at f
  by_cases z : (un : Int) = 0 ∨ (dn : Int) = 0
  · rw [if_pos z] at f ⊢
    rw [of_decide_eq_true f]
    simp
  · rw [if_neg z] at f ⊢
    rw [Bool.or_eq_true] at f
    rcases f with f | f
    · rw [of_decide_eq_true f]; simp
    · rw [of_decide_eq_true f]; simp
theorem capK_cell {r : Nat} (h1 : 1 ≤ r) (h2 : r ≤ 4) {k : KT} (kv : KVk k) (h3 : k.1 + k.2.1 ≠ 0) : capK r k ∈ cellsOf r := by
  have a := kv.u0
  have b := kv.d0
  refine mem_cells (kv.cap (by omega) (by omega)) (capI_le (by omega)) (capI_le (by omega)) ?_
  show capI k.1 r + capI k.2.1 r ≠ 0
  unfold capI
  split <;> split <;> omega
theorem valV_put_some {kvs : List (List Key × V)} {k k' : List Key} {v : V} : (valV (putK kvs k v) k').isSome = (decide (k' = k) || (valV kvs k').isSome) := by
  have any : ∀ (l : List (List Key × V)) (q : List Key), (valV l q).isSome = l.any fun kv => decide (kv.1 = q) := fun l q => by
    unfold valV
    rw [Option.isSome_map, Bool.eq_iff_iff, List.find?_isSome, List.any_eq_true]
  rw [any, any]
  unfold putK
  split
  · rename_i h
    rw [List.any_map]
    rw [List.any_eq_true] at h
    obtain ⟨x, hx, e⟩ := h
    have e := of_decide_eq_true e
    have z : (fun kv : List Key × V => decide (kv.1 = k')) ∘ (fun kv => if kv.1 = k then (kv.1, v) else kv) = fun kv => decide (kv.1 = k') := by
      funext kv
      dsimp only [Function.comp]
      split <;> rfl
    rw [z]
    by_cases h2 : k' = k
    · rw [decide_eq_true h2, Bool.true_or]
      exact List.any_eq_true.mpr ⟨x, hx, decide_eq_true (by rw [e, h2])⟩
    · rw [decide_eq_false h2, Bool.false_or]
  · rw [List.any_append, Bool.or_comm]
    congr 1
    simp only [List.any_cons, List.any_nil, Bool.or_false]
    exact decide_eq_decide.mpr ⟨fun h => h.symm, fun h => h.symm⟩
theorem length_putK' (kvs : List (List Key × V)) (k : List Key) (v : V) : (putK kvs k v).length ≤ kvs.length + 1 := length_putK kvs k v
theorem keyT_eq {k k' : KT} : keyT k = keyT k' ↔ k = k' := ⟨keyT_inj, fun h => by rw [h]⟩
theorem ltK_total {rows : List KT} {c : KT} : placeK rows c ≤ rows.length := by
  unfold placeK
  induction rows with
  | nil => simp
  | cons x xs ih => rw [List.takeWhile_cons]; split <;> simp; omega
theorem placeK_lt : ∀ {rows : List KT} {c k : KT} {i : Nat}, rows[i]? = some k → i < placeK rows c → ltK k c = true
  | [], c, k, i, h, _ => by simp at h
  | x :: xs, c, k, i, h, hi => by
    unfold placeK at hi
    rw [List.takeWhile_cons] at hi
    split at hi
    · rename_i hx
      cases i with
      | zero => simp at h; rw [← h]; exact hx
      | succ i => exact placeK_lt (rows := xs) (i := i) (by simpa using h) (by unfold placeK; simp at hi; omega)
    · simp at hi
theorem placeK_ge : ∀ {rows : List KT} {c k : KT}, rows[placeK rows c]? = some k → ltK k c = false
  | [], c, k, h => by simp at h
  | x :: xs, c, k, h => by
    unfold placeK at h
    rw [List.takeWhile_cons] at h
    split at h
    · exact placeK_ge (rows := xs) (c := c) (by unfold placeK; simpa using h)
    · rename_i hx
      simp at h
      rw [← h]
      simpa using hx
theorem nodup_putR {rows : List KT} {c : KT} (h : rows.Nodup) : (putR rows c).Nodup := by
  unfold putR
  split
  · exact h
  · rename_i hc
    have hc' : c ∉ rows := fun z => hc (by rw [List.contains_iff_mem]; exact z)
    have hs : (rows.take (placeK rows c) ++ rows.drop (placeK rows c)).Nodup := by rw [List.take_append_drop]; exact h
    rw [List.append_assoc]
    rw [List.nodup_append] at hs ⊢
    refine ⟨hs.1, ?_, ?_⟩
    · rw [List.singleton_append, List.nodup_cons]
      exact ⟨fun z => hc' (List.mem_of_mem_drop z), hs.2.1⟩
    · intro a ha b hb
      rw [List.singleton_append, List.mem_cons] at hb
      rcases hb with rfl | hb
      · rintro rfl
        exact hc' (List.mem_of_mem_take ha)
      · exact hs.2.2 a ha b hb
section
variable {K : PySem.W.Frag} {S : Dst} {H H1 : Hp} {a d l : Addr} {r : Nat} {rows : List KT}
theorem RuleA.mono (R : RuleA K S H a r rows d l) (e : Lx S H H1) : RuleA K S H1 a r rows d l :=
  ⟨R.obj.mono e, let ⟨kvs, h, x, y⟩ := R.dic; ⟨kvs, e.1 _ _ R.nd h, x, y⟩, R.nd, let ⟨ys, h, x⟩ := R.lst; ⟨ys, e.1 _ _ R.nl h, x.mono e⟩, R.nl, R.r0, R.r1, R.ok, R.nd2⟩
theorem KinsL.to0 {ys : List V} {ks : List KT} (h : KinsL K S H ys ks) : KinsL K none H ys ks := ⟨h.1, fun i y k a b => let ⟨p, q, r⟩ := h.2 i y k a b; ⟨p, q, r.to0⟩⟩
theorem RuleA.to0 (R : RuleA K S H a r rows d l) : RuleA K none H a r rows d l :=
  ⟨R.obj.to0, R.dic, sx_none, let ⟨ys, h, x⟩ := R.lst; ⟨ys, h, x.to0⟩, sx_none, R.r0, R.r1, R.ok, R.nd2⟩
theorem KinsL.up {S : Dst} {ys : List V} {ks : List KT} {H0 : Hp} (e : Lx S H0 H) (h : KinsL K none H ys ks) : KinsL K S H ys ks := ⟨h.1, fun i y k a b => let ⟨p, q, r⟩ := h.2 i y k a b; ⟨p, q, IA.of e r⟩⟩
end
theorem KinsL.updI {K : PySem.W.Frag} {S : Dst} {H : Hp} {x C dx : Addr} {fs : List (Str × V)} {o : HO} {ys : List V} {ks : List KT} (hx : H x = some (.ins C dx fs)) (ne : fs.length ≠ 5) (h : KinsL K S H ys ks) : KinsL K S (upd H x o) ys ks :=
  ⟨h.1, fun i y k a b => let ⟨p, q, r⟩ := h.2 i y k a b; ⟨p, q, r.updI hx fun z => ne (by rw [← z]; rfl)⟩⟩
theorem cells_len {r : Nat} (hr : r ≤ 4) : (cellsOf r).length ≤ 100 := by
  have : r = 0 ∨ r = 1 ∨ r = 2 ∨ r = 3 ∨ r = 4 := by omega
  rcases this with rfl | rfl | rfl | rfl | rfl <;> decide +kernel
theorem cells_nodup {r : Nat} (hr : r ≤ 4) : (cellsOf r).Nodup := by
  have : r = 0 ∨ r = 1 ∨ r = 2 ∨ r = 3 ∨ r = 4 := by omega
  rcases this with rfl | rfl | rfl | rfl | rfl <;> decide +kernel
theorem nodup_len {α : Type} [DecidableEq α] : ∀ {xs ys : List α}, xs.Nodup → (∀ x ∈ xs, x ∈ ys) → xs.length ≤ ys.length
  | [], _, _, _ => Nat.zero_le _
  | x :: xs, ys, nd, h => by
    have hx := h x (by simp)
    rw [List.nodup_cons] at nd
    have h2 := nodup_len (xs := xs) (ys := ys.erase x) nd.2 fun y hy => by
      have hy2 := h y (by simp [hy])
      have ne : y ≠ x := fun z => nd.1 (z ▸ hy)
      exact (List.mem_erase_of_ne ne).mpr hy2
    have h3 := List.length_erase_of_mem hx
    have h4 := List.length_pos_of_mem hx
    rw [List.length_cons]
    omega
theorem KinsL.insert {K : PySem.W.Frag} {S : Dst} {H : Hp} {ys : List V} {ks : List KT} {b : Addr} {k : KT} {n : Nat} (h : KinsL K S H ys ks) (hb : KinA K S H b k.1 k.2.1 k.2.2) : KinsL K S H (ys.take n ++ [.ref b] ++ ys.drop n) (ks.take n ++ [k] ++ ks.drop n) := by
  have tl : (ys.take n).length = (ks.take n).length := by rw [List.length_take, List.length_take, h.1]
  refine ⟨by simp only [List.length_append, List.length_take, List.length_drop, h.1]; rfl, fun i y q g1 g2 => ?_⟩
  have cut : ∀ (m : Nat) (y : V) (q : KT), ys[m]? = some y → ks[m]? = some q → ∃ b, y = .ref b ∧ KinA K S H b q.1 q.2.1 q.2.2 := h.2
  by_cases h1 : i < (ys.take n).length
  · rw [List.append_assoc, List.getElem?_append_left h1] at g1
    rw [List.append_assoc, List.getElem?_append_left (by rw [← tl]; exact h1)] at g2
    rw [List.length_take] at h1
    rw [List.getElem?_take_of_lt (by omega)] at g1 g2
    exact cut i y q g1 g2
  · rw [List.append_assoc, List.getElem?_append_right (by omega)] at g1
    rw [List.append_assoc, List.getElem?_append_right (by omega)] at g2
    rw [← tl] at g2
    cases hm : i - (ys.take n).length with
    | zero =>
      rw [hm] at g1 g2
      simp at g1 g2
      subst g1 g2
      exact ⟨b, rfl, hb⟩
    | succ m =>
      rw [hm] at g1 g2
      simp only [List.singleton_append, List.getElem?_cons_succ, List.getElem?_drop] at g1 g2
      exact cut _ y q g1 g2
end Fw

namespace Fw
open PySem PySem.Spec PyProof.Rows L2
/-! ### steps, plainly -/
/-- a rule lets (u, d, s) -/
def letsR (r : Nat) (rows : List KT) (u d : Nat) (s : Str) : Bool := rows.contains (capK r ((u : Int), (d : Int), s))
def sideAt (r : Nat) (rows : List KT) (u d : Nat) : Option Str :=
  if u = 0 ∧ d = 0 then none
  else if u = 0 ∨ d = 0 then (if letsR r rows u d "line" = true then some "line" else none)
  else if letsR r rows u d "elder" = true then some "elder"
  else if letsR r rows u d "younger" = true then some "younger" else none
/-- from n down to 0, the first place where f has something -/
def bestFrom (f : Nat → Option Str) : Nat → Option (Nat × Str)
  | 0 => (f 0).map fun s => (0, s)
  | n + 1 => match f (n + 1) with
    | some s => some (n + 1, s)
    | none => bestFrom f n
def bestV (r : Nat) (rows : List KT) (s g : Nat) : Option (Nat × Str) := bestFrom (fun v => sideAt r rows (s - v) (g - v)) (min s g)
def stepB (r : Nat) (rows : List KT) (s g : Nat) : Bool := (bestV r rows s g).isSome
theorem bestFrom_isSome {f : Nat → Option Str} : ∀ {n : Nat}, (bestFrom f n).isSome = true ↔ ∃ v, v ≤ n ∧ (f v).isSome = true
  | 0 => by
    unfold bestFrom
    rw [Option.isSome_map]
    exact ⟨fun h => ⟨0, Nat.le_refl _, h⟩, fun ⟨v, h1, h2⟩ => by have : v = 0 := by omega
                                                                 subst this; exact h2⟩
  | n + 1 => by
    unfold bestFrom
    cases h : f (n + 1) with
    | some s => simp only [Option.isSome_some, true_iff]; exact ⟨n + 1, Nat.le_refl _, by rw [h]; rfl⟩
    | none =>
      dsimp only
      rw [bestFrom_isSome]
      constructor
      · rintro ⟨v, h1, h2⟩; exact ⟨v, by omega, h2⟩
      · rintro ⟨v, h1, h2⟩
        have : v ≠ n + 1 := fun z => by subst z; rw [h] at h2; cases h2
        exact ⟨v, by omega, h2⟩
/-- the side as a value; the best valley as a value -/
def oV : Option Str → V
  | none => .non
  | some s => .str s
def OptT (S : Dst) (H : Hp) (v : V) (o : Option (Nat × Str)) : Prop := (o = none ∧ v = .non) ∨ ∃ (n : Nat) (s : Str) (p : Addr), o = some (n, s) ∧ v = .ref p ∧ H p = some (.tup [.int (n : Int), .str s]) ∧ ¬ Sx S p
theorem OptT.mono {S : Dst} {H H1 : Hp} {v : V} {o : Option (Nat × Str)} (h : OptT S H v o) (e : Lx S H H1) : OptT S H1 v o := h.imp id fun ⟨n, s, p, a, b, c, d⟩ => ⟨n, s, p, a, b, e.1 _ _ d c, d⟩
theorem OptT.non {S : Dst} {H : Hp} {v : V} {o : Option (Nat × Str)} (h : OptT S H v o) : decide (v = .non) = !o.isSome := by
  rcases h with ⟨rfl, rfl⟩ | ⟨n, s, p, rfl, rfl, _⟩
  · rfl
  · rfl
theorem OptT.stab {S : Dst} {H : Hp} {v : V} {o : Option (Nat × Str)} {D : Addr} {us ws : List V} (hD : H D = some (.lst us)) (h : OptT S H v o) : OptT S (upd H D (.lst ws)) v o := h.imp id fun ⟨n, s, p, a, b, c, d⟩ => ⟨n, s, p, a, b, by rw [upd_ne (fun z => by subst z; rw [hD] at c; cases c)]; exact c, d⟩
end Fw
namespace Fw
open PySem PySem.Spec PyProof.Rows L2
theorem RuleA.updI {K : PySem.W.Frag} {S : Dst} {H : Hp} {a d l x C dx : Addr} {r : Nat} {rows : List KT} {fs : List (Str × V)} {o : HO} (hx : H x = some (.ins C dx fs)) (n3 : fs.length ≠ 3) (n5 : fs.length ≠ 5) (R : RuleA K S H a r rows d l) : RuleA K S (upd H x o) a r rows d l := by
  obtain ⟨kvs, hd, lk, all⟩ := R.dic
  obtain ⟨ys, hl, hk⟩ := R.lst
  exact ⟨R.obj.updI hx fun z => n3 (by rw [← z]; rfl), ⟨kvs, by rw [upd_ne (fun z => by subst z; rw [hx] at hd; cases hd)]; exact hd, lk, all⟩, R.nd, ⟨ys, by rw [upd_ne (fun z => by subst z; rw [hx] at hl; cases hl)]; exact hl, hk.updI hx n5⟩, R.nl, R.r0, R.r1, R.ok, R.nd2⟩
/-- a row of the valleys -/
def RowV (S : Dst) (H : Hp) (r : Nat) (rows : List KT) (i : Nat) (y : V) : Prop := ∃ (p : Addr) (ys : List V), y = .ref p ∧ H p = some (.lst ys) ∧ ¬ Sx S p ∧ ys.length = 4 * r + 1 ∧ ∀ (j : Nat) (z : V), ys[j]? = some z → OptT S H z (bestV r rows i j)
theorem RowV.mono {S : Dst} {H H1 : Hp} {r : Nat} {rows : List KT} {i : Nat} {y : V} (h : RowV S H r rows i y) (e : Lx S H H1) : RowV S H1 r rows i y := by
  obtain ⟨p, ys, a, b, c, d, f⟩ := h
  exact ⟨p, ys, a, e.1 _ _ c b, c, d, fun j z hz => (f j z hz).mono e⟩
theorem RowV.stab {S : Dst} {H : Hp} {r : Nat} {rows : List KT} {i : Nat} {y : V} {D : Addr} {us ws : List V} (hD : H D = some (.lst us)) (ne : y ≠ .ref D) (h : RowV S H r rows i y) : RowV S (upd H D (.lst ws)) r rows i y := by
  obtain ⟨p, ys, a, b, c, d, f⟩ := h
  exact ⟨p, ys, a, by rw [upd_ne (fun z => ne (by rw [a, z]))]; exact b, c, d, fun j z hz => (f j z hz).stab hD⟩
abbrev levF (r : Nat) (v : Addr) : List (Str × V) := [("top", .int (4 * (r : Int))), ("_valleys", .ref v)]
structure LevelsA (K : PySem.W.Frag) (S : Dst) (H : Hp) (a : Addr) (r : Nat) (rows : List KT) : Prop where
  q : ∃ v, IA S H a (He.ga K "Levels") (levF r v) ∧ ¬ Sx S v ∧ ∃ rs, H v = some (.lst rs) ∧ rs.length = 4 * r + 1 ∧ ∀ (i : Nat) (y : V), rs[i]? = some y → RowV S H r rows i y
  r1 : r ≤ 4
theorem LevelsA.mono {K : PySem.W.Frag} {S : Dst} {H H1 : Hp} {a : Addr} {r : Nat} {rows : List KT} (h : LevelsA K S H a r rows) (e : Lx S H H1) : LevelsA K S H1 a r rows := by
  obtain ⟨v, i, n, rs, hv, l, f⟩ := h.q
  exact ⟨⟨v, i.mono e, n, rs, e.1 _ _ n hv, l, fun j y hy => (f j y hy).mono e⟩, h.r1⟩
def goalsOf (r : Nat) (rows : List KT) (s : Nat) : List Nat := (List.range (4 * r + 1)).filter fun g => stepB r rows s g
end Fw

namespace Fw
/-! ### a search in breadth, plainly -/
/-- a walk of n steps from a -/
inductive Wk (adj : Nat → List Nat) (a : Nat) : Nat → Nat → Prop
  | nil : Wk adj a 0 a
  | snoc {n b c : Nat} : Wk adj a n b → c ∈ adj b → Wk adj a (n + 1) c
structure BI (adj : Nat → List Nat) (first N : Nat) (cnt bef : Nat → Option Nat) (Q : List Nat) (at_ : Nat) : Prop where
  c0 : cnt first = some 0
  mem : ∀ g, (cnt g).isSome = true ↔ g ∈ Q
  bnd : ∀ g ∈ Q, g < N
  nd : Q.Nodup
  snd : ∀ g c, cnt g = some c → Wk adj first c g
  mono : ∀ (i j : Nat) (g h c d : Nat), i ≤ j → Q[i]? = some g → Q[j]? = some h → cnt g = some c → cnt h = some d → c ≤ d
  le : ∀ (g c h d : Nat), Q[at_]? = some h → cnt h = some d → cnt g = some c → c ≤ d + 1
  done : ∀ (i g c h : Nat), i < at_ → Q[i]? = some g → cnt g = some c → h ∈ adj g → ∃ d, cnt h = some d ∧ d ≤ c + 1
  pv : ∀ g c, cnt g = some (c + 1) → ∃ b, bef g = some b ∧ cnt b = some c ∧ g ∈ adj b
  at_le : at_ ≤ Q.length
def setF (f : Nat → Option Nat) (g v : Nat) : Nat → Option Nat := fun x => if x = g then some v else f x
section
variable {adj : Nat → List Nat} {first N : Nat} {cnt bef : Nat → Option Nat} {Q : List Nat} {at_ : Nat}
theorem BI.start (h : first < N) : BI adj first N (setF (fun _ => none) first 0) (fun _ => none) [first] 0 where
  c0 := by unfold setF; rw [if_pos rfl]
  mem := fun g => by
    unfold setF
    by_cases e : g = first
    · rw [if_pos e]; simp [e]
    · rw [if_neg e]; simp [e]
  bnd := fun g hg => by rw [List.mem_singleton] at hg; omega
  nd := by simp
  snd := fun g c hg => by
    unfold setF at hg
    split at hg
    · rename_i e
      subst e
      cases hg
      exact .nil
    · cases hg
  mono := fun i j g h c d _ _ _ hg hh => by
    unfold setF at hg hh
    split at hg
    · split at hh
      · cases hg; cases hh; exact Nat.le_refl _
      · cases hh
    · cases hg
  le := fun g c h d _ _ hg => by
    unfold setF at hg
    split at hg
    · cases hg; omega
    · cases hg
  done := fun i g c h hi => absurd hi (Nat.not_lt_zero _)
  pv := fun g c hg => by
    unfold setF at hg
    split at hg
    · cases hg
    · cases hg
  at_le := Nat.zero_le _
/-- a new goal is found from the node at at_ -/
theorem BI.found (B : BI adj first N cnt bef Q at_) {lv c g : Nat} (hl : Q[at_]? = some lv) (hc : cnt lv = some c) (hg : g ∈ adj lv) (hn : cnt g = none) (hN : g < N) : BI adj first N (setF cnt g (c + 1)) (setF bef g lv) (Q ++ [g]) at_ := by
  have gQ : g ∉ Q := fun z => by have := (B.mem g).mpr z; rw [hn] at this; cases this
  have old : ∀ {x y : Nat}, cnt x = some y → setF cnt g (c + 1) x = some y := fun {x y} h => by
    unfold setF
    rw [if_neg (fun z => by subst z; rw [hn] at h; cases h)]
    exact h
  have inv : ∀ {x y : Nat}, setF cnt g (c + 1) x = some y → (x = g ∧ y = c + 1) ∨ cnt x = some y := fun {x y} h => by
    unfold setF at h
    split at h
    · rename_i e; cases h; exact .inl ⟨e, rfl⟩
    · exact .inr h
  have atl : at_ < Q.length := (List.getElem?_eq_some_iff.mp hl).1
  have sp : ∀ {i x : Nat}, (Q ++ [g])[i]? = some x → (i < Q.length ∧ Q[i]? = some x) ∨ (i = Q.length ∧ x = g) := fun {i x} h => by
    by_cases hi : i < Q.length
    · rw [List.getElem?_append_left hi] at h; exact .inl ⟨hi, h⟩
    · have h2 := (List.getElem?_eq_some_iff.mp h).1
      rw [List.length_append] at h2
      have e : i = Q.length := by simp at h2; omega
      subst e
      simp at h
      exact .inr ⟨rfl, h.symm⟩
  refine ⟨old B.c0, fun x => ?_, fun x hx => ?_, ?_, fun x y h => ?_, fun i j x y a b hij hi hj ha hb => ?_, fun x a y b hy hb ha => ?_, fun i x a y hi hx ha hy => ?_, fun x a h => ?_, by rw [List.length_append]; omega⟩
  · unfold setF
    rw [List.mem_append, List.mem_singleton]
    by_cases e : x = g
    · rw [if_pos e]; simp [e]
    · rw [if_neg e, B.mem]; simp [e]
  · rw [List.mem_append, List.mem_singleton] at hx
    rcases hx with h | rfl
    · exact B.bnd x h
    · exact hN
  · rw [List.nodup_append]
    refine ⟨B.nd, by simp, fun x hx y hy => ?_⟩
    rw [List.mem_singleton] at hy
    subst hy
    exact fun z => gQ (z ▸ hx)
  · rcases inv h with ⟨rfl, rfl⟩ | h
    · exact .snoc (B.snd _ _ hc) hg
    · exact B.snd x y h
  · rcases inv ha with ⟨rfl, rfl⟩ | ha'
    · rcases sp hi with ⟨_, h1⟩ | ⟨h1, _⟩
      · exact absurd (List.mem_of_getElem? h1) gQ
      · rcases sp hj with ⟨h2, _⟩ | ⟨_, rfl⟩
        · omega
        · rcases inv hb with ⟨_, rfl⟩ | hb'
          · exact Nat.le_refl _
          · rw [hn] at hb'; cases hb'
    · rcases inv hb with ⟨rfl, rfl⟩ | hb'
      · exact B.le x a lv c hl hc ha'
      · rcases sp hi with ⟨_, h1⟩ | ⟨_, rfl⟩
        · rcases sp hj with ⟨_, h2⟩ | ⟨_, rfl⟩
          · exact B.mono i j x y a b hij h1 h2 ha' hb'
          · rw [hn] at hb'; cases hb'
        · rw [hn] at ha'; cases ha'
  · rw [List.getElem?_append_left atl, hl] at hy
    cases hy
    have eb : b = c := by
      rcases inv hb with ⟨rfl, _⟩ | h
      · rw [hn] at hc; cases hc
      · rw [hc] at h; cases h; rfl
    subst eb
    rcases inv ha with ⟨_, rfl⟩ | h
    · exact Nat.le_refl _
    · exact B.le x a lv b hl hc h
  · rw [List.getElem?_append_left (by omega)] at hx
    have ha' : cnt x = some a := by
      rcases inv ha with ⟨rfl, _⟩ | h
      · exact absurd (List.mem_of_getElem? hx) gQ
      · exact h
    obtain ⟨d, h1, h2⟩ := B.done i x a y hi hx ha' hy
    exact ⟨d, old h1, h2⟩
  · rcases inv h with ⟨rfl, e⟩ | hx
    · have ea : a = c := by omega
      subst ea
      exact ⟨lv, by unfold setF; rw [if_pos rfl], old hc, hg⟩
    · obtain ⟨b, h1, h2, h3⟩ := B.pv x a hx
      refine ⟨b, ?_, old h2, h3⟩
      unfold setF
      rw [if_neg (fun z => by subst z; rw [hn] at hx; cases hx)]
      exact h1
/-- a node is done -/
theorem BI.next (B : BI adj first N cnt bef Q at_) {lv c : Nat} (hl : Q[at_]? = some lv) (hc : cnt lv = some c) (all : ∀ h ∈ adj lv, ∃ d, cnt h = some d ∧ d ≤ c + 1) : BI adj first N cnt bef Q (at_ + 1) where
  c0 := B.c0
  mem := B.mem
  bnd := B.bnd
  nd := B.nd
  snd := B.snd
  mono := B.mono
  le := fun g a h d hh hd ha => Nat.le_trans (B.le g a lv c hl hc ha) (Nat.succ_le_succ (B.mono at_ (at_ + 1) lv h c d (Nat.le_succ _) hl hh hc hd))
  done := fun i g a h hi hg ha hh => by
    by_cases e : i = at_
    · subst e
      rw [hl] at hg
      cases hg
      rw [hc] at ha
      cases ha
      exact all h hh
    · exact B.done i g a h (by omega) hg ha hh
  pv := B.pv
  at_le := (List.getElem?_eq_some_iff.mp hl).1
/-- what the search tells -/
structure Dist (adj : Nat → List Nat) (first : Nat) (cnt bef : Nat → Option Nat) : Prop where
  snd : ∀ g c, cnt g = some c → Wk adj first c g
  least : ∀ n g, Wk adj first n g → ∃ d, cnt g = some d ∧ d ≤ n
  pv : ∀ g c, cnt g = some (c + 1) → ∃ b, bef g = some b ∧ cnt b = some c ∧ g ∈ adj b
theorem BI.dist (B : BI adj first N cnt bef Q at_) (h : Q.length ≤ at_) : Dist adj first cnt bef where
  snd := B.snd
  least := fun n g w => by
    induction w with
    | nil => exact ⟨0, B.c0, Nat.le_refl _⟩
    | @snoc n b c w hc ih =>
      obtain ⟨d, h1, h2⟩ := ih
      have hb : b ∈ Q := (B.mem b).mp (by rw [h1]; rfl)
      obtain ⟨i, hi⟩ := List.mem_iff_getElem?.mp hb
      have il := (List.getElem?_eq_some_iff.mp hi).1
      obtain ⟨e, h3, h4⟩ := B.done i b d c (by omega) hi h1 hc
      exact ⟨e, h3, by omega⟩
  pv := B.pv
theorem BI.len (B : BI adj first N cnt bef Q at_) : Q.length ≤ N := by
  have := nodup_len (ys := List.range N) B.nd fun x hx => List.mem_range.mpr (B.bnd x hx)
  rwa [List.length_range] at this
end
end Fw
namespace Fw
open PySem PySem.Spec PyProof.Rows L2
def oN : Option Nat → V
  | none => .non
  | some n => .int (n : Int)
def rowN (n : Nat) (f : Nat → Option Nat) : List V := (List.range n).map fun u => oN (f u)
theorem rowN_len {n : Nat} {f : Nat → Option Nat} : (rowN n f).length = n := by unfold rowN; rw [List.length_map, List.length_range]
theorem rowN_get {n u : Nat} {f : Nat → Option Nat} (h : u < n) : (rowN n f)[u]? = some (oN (f u)) := by unfold rowN; rw [List.getElem?_map, List.getElem?_range h]; rfl
theorem rowN_set {n u v : Nat} {f : Nat → Option Nat} : (rowN n f).set u (.int (v : Int)) = rowN n (setF f u v) := by
  apply List.ext_getElem?
  intro i
  by_cases hi : i < n
  · rw [rowN_get hi]
    by_cases e : u = i
    · subst e
      rw [List.getElem?_set_self (by rw [rowN_len]; exact hi)]
      unfold setF
      rw [if_pos rfl]
      rfl
    · rw [List.getElem?_set_ne e, rowN_get hi]
      unfold setF
      rw [if_neg (fun z => e z.symm)]
  · rw [List.getElem?_eq_none (by rw [List.length_set, rowN_len]; omega), List.getElem?_eq_none (by rw [rowN_len]; omega)]
theorem rowN_none {n : Nat} : (List.replicate n [V.non]).flatten = rowN n fun _ => none := by
  unfold rowN
  induction n with
  | zero => rfl
  | succ n ih => rw [List.range_succ, List.map_append, ← ih, List.replicate_succ', List.flatten_append]; rfl
section
variable {K : PySem.W.Frag} {S : Dst} {σ : L2.St} {H : Hp} {tl : TE} {D : Ends} {tu tz : TS} {g : TG} {P' : V → Hp → Prop}
theorem s_forLX1 (h : EvX K S tl σ H P') (k : ∀ v H1, Lx S H H1 → P' v H1 → St K S (tFor (iList K (tC v)) g tu) D σ H1) : St K S (tFor (iList K tl) g tu) D σ H := fun H1 e => h H1 e _ fun v H2 e2 p => k v H2 (e.trans e2) p H2 (e.trans e2).refl
theorem s_forLX (h : EvX K S tl σ H P') (k : ∀ v H1, Lx S H H1 → P' v H1 → St K S (tSeq (tFor (iList K (tC v)) g tu) tz) D σ H1) : St K S (tSeq (tFor (iList K tl) g tu) tz) D σ H := fun H1 e => h H1 e _ fun v H2 e2 p => k v H2 (e.trans e2) p H2 (e.trans e2).refl
theorem ixN_nat {n i : Nat} (h : i < n) : ixN n (i : Int) = some i := by
  unfold ixN
  rw [if_pos (by omega)]
  simp
  omega
end
end Fw

namespace Fw
open PySem PySem.Spec PyProof.Rows L2
abbrev tabF (r : Nat) (g b w : Addr) : List (Str × V) := [("most", .int (2 * (r : Int))), ("_grid", .ref g), ("_before", .ref b), ("_rows", .ref w)]
/-- a row of the table and what stands before -/
structure TRow (S : Dst) (H : Hp) (r : Nat) (rows : List KT) (i : Nat) (y z : V) (cnt bef : Nat → Option Nat) : Prop where
  y : ∃ p, y = .ref p ∧ H p = some (.tup (rowN (2 * r + 1) cnt)) ∧ ¬ Sx S p
  z : ∃ q, z = .ref q ∧ H q = some (.lst (rowN (4 * r + 1) bef)) ∧ ¬ Sx S q
  d : Dist (goalsOf r rows) i cnt bef
theorem TRow.mono {S : Dst} {H H1 : Hp} {r : Nat} {rows : List KT} {i : Nat} {y z : V} {cnt bef : Nat → Option Nat} (t : TRow S H r rows i y z cnt bef) (e : Lx S H H1) : TRow S H1 r rows i y z cnt bef := by
  obtain ⟨⟨p, a, b, c⟩, ⟨q, x, u, v⟩, d⟩ := t
  exact ⟨⟨p, a, e.1 _ _ c b, c⟩, ⟨q, x, e.1 _ _ v u, v⟩, d⟩
structure TableA (K : PySem.W.Frag) (S : Dst) (H : Hp) (a : Addr) (r : Nat) (rows : List KT) (cnt bef : Nat → Nat → Option Nat) : Prop where
  q : ∃ g b w, IA S H a (He.ga K "GenerationTable") (tabF r g b w) ∧ LevelsA K S H g r rows ∧ ¬ Sx S b ∧ ¬ Sx S w ∧ ∃ bs ws, H b = some (.lst bs) ∧ H w = some (.lst ws) ∧ bs.length = 2 * r + 1 ∧ ws.length = 2 * r + 1 ∧
    ∀ (i : Nat) (y z : V), ws[i]? = some y → bs[i]? = some z → TRow S H r rows i y z (cnt i) (bef i)
  r1 : r ≤ 4
theorem TableA.mono {K : PySem.W.Frag} {S : Dst} {H H1 : Hp} {a : Addr} {r : Nat} {rows : List KT} {cnt bef : Nat → Nat → Option Nat} (t : TableA K S H a r rows cnt bef) (e : Lx S H H1) : TableA K S H1 a r rows cnt bef := by
  obtain ⟨g, b, w, i, l, nb, nw, bs, ws, hb, hw, lb, lw, f⟩ := t.q
  exact ⟨⟨g, b, w, i.mono e, l.mono e, nb, nw, bs, ws, e.1 _ _ nb hb, e.1 _ _ nw hw, lb, lw, fun j y z hy hz => (f j y z hy hz).mono e⟩, t.r1⟩
end Fw
namespace Fw
open PySem PySem.Spec PyProof.Rows L2
theorem LevelsA.updI {K : PySem.W.Frag} {S : Dst} {H : Hp} {a x C dx : Addr} {r : Nat} {rows : List KT} {fs : List (Str × V)} {o : HO} (hx : H x = some (.ins C dx fs)) (ne : ∀ v, levF r v ≠ fs) (L : LevelsA K S H a r rows) : LevelsA K S (upd H x o) a r rows := by
  obtain ⟨v, ia, n, rs, hv, l, f⟩ := L.q
  refine ⟨⟨v, ia.updI hx (ne v), n, rs, by rw [upd_ne (fun z => by subst z; rw [hx] at hv; cases hv)]; exact hv, l, fun j y hy => ?_⟩, L.r1⟩
  obtain ⟨p, ys, a, b, c, d, g⟩ := f j y hy
  refine ⟨p, ys, a, by rw [upd_ne (fun z => by subst z; rw [hx] at b; cases b)]; exact b, c, d, fun m z hz => ?_⟩
  rcases g m z hz with h | ⟨n, s, q, h1, h2, h3, h4⟩
  · exact .inl h
  · exact .inr ⟨n, s, q, h1, h2, by rw [upd_ne (fun z => by subst z; rw [hx] at h3; cases h3)]; exact h3, h4⟩
end Fw
namespace Fw
open PySem PySem.Spec PyProof.Rows L2
abbrev tab1 (r : Nat) : List (Str × V) := [("most", .int (2 * (r : Int)))]
abbrev tab2 (r : Nat) (g : Addr) : List (Str × V) := [("most", .int (2 * (r : Int))), ("_grid", .ref g)]
abbrev tab3 (r : Nat) (g b : Addr) : List (Str × V) := [("most", .int (2 * (r : Int))), ("_grid", .ref g), ("_before", .ref b)]
end Fw
namespace Fw
open PySem PySem.Spec PyProof.Rows L2
theorem TRow.stab {H : Hp} {r : Nat} {rows : List KT} {i : Nat} {y z : V} {cnt bef : Nat → Option Nat} {D : Addr} {us ws : List V} (hD : H D = some (.lst us)) (ne : z ≠ .ref D) (t : TRow none H r rows i y z cnt bef) : TRow none (upd H D (.lst ws)) r rows i y z cnt bef := by
  obtain ⟨⟨p, a, b, c⟩, ⟨q, x, u, v⟩, d⟩ := t
  exact ⟨⟨p, a, by rw [upd_ne (fun z => by subst z; rw [hD] at b; cases b)]; exact b, c⟩, ⟨q, x, by rw [upd_ne (fun e => ne (by rw [x, e]))]; exact u, v⟩, d⟩
theorem cut_row {n m : Nat} {f : Nat → Option Nat} (h : m ≤ n) : cutV (rowN n f) none (some (m : Int)) = rowN m f := by
  unfold cutV
  rw [HT.sIx_none, HT.sIx_nat, rowN_len]
  simp only [List.drop_zero, Nat.sub_zero, Nat.min_eq_left h]
  unfold rowN
  rw [← List.map_take, List.take_range, Nat.min_eq_left h]
end Fw

namespace Fw
open PySem PySem.Spec PyProof.Rows L2
/-- items that are rows (up, down, side) -/
def RowsK (S : Dst) (H : Hp) (ys : List V) (ks : List KT) : Prop := ys.length = ks.length ∧ ∀ (i : Nat) (y : V) (k : KT), ys[i]? = some y → ks[i]? = some k → Row S H y k.1 k.2.1 k.2.2
section
variable {S : Dst} {H H1 : Hp} {ys : List V} {ks : List KT}
theorem RowsK.mono (h : RowsK S H ys ks) (e : Lx S H H1) : RowsK S H1 ys ks := ⟨h.1, fun i y k a b => (h.2 i y k a b).mono e⟩
theorem RowsK.nil : RowsK S H [] [] := ⟨rfl, fun i y k a _ => by simp at a⟩
theorem Row.stab {v : V} {u d : Int} {s : Str} {D : Addr} {us ws : List V} (hD : H D = some (.lst us)) (h : Row S H v u d s) : Row S (upd H D (.lst ws)) v u d s := by
  obtain ⟨p, a, b, c⟩ := h
  exact ⟨p, a, by rw [upd_ne (fun z => by subst z; rw [hD] at b; cases b)]; exact b, c⟩
theorem RowsK.stab {D : Addr} {us ws : List V} (hD : H D = some (.lst us)) (h : RowsK S H ys ks) : RowsK S (upd H D (.lst ws)) ys ks := ⟨h.1, fun i y k a b => (h.2 i y k a b).stab hD⟩
theorem RowsK.snoc {y : V} {k : KT} (h : RowsK S H ys ks) (hy : Row S H y k.1 k.2.1 k.2.2) : RowsK S H (ys ++ [y]) (ks ++ [k]) := by
  refine ⟨by simp [h.1], fun i z q a c => ?_⟩
  by_cases hi : i < ys.length
  · rw [List.getElem?_append_left hi] at a
    rw [List.getElem?_append_left (by rw [← h.1]; exact hi)] at c
    exact h.2 i z q a c
  · have h2 := (List.getElem?_eq_some_iff.mp a).1
    rw [List.length_append] at h2
    have e : i = ys.length := by simp at h2; omega
    subst e
    rw [h.1] at c
    simp at a c
    subst a c
    exact hy
theorem RowsK.to0 (h : RowsK S H ys ks) : RowsK none H ys ks := ⟨h.1, fun i y k a b => (h.2 i y k a b).to0⟩
theorem RowsK.up {H0 : Hp} (e : Lx S H0 H) (h : RowsK none H ys ks) : RowsK S H ys ks := ⟨h.1, fun i y k a b => (h.2 i y k a b).up e⟩
end
/-- the datum of a row -/
def dK (k : KT) : PyData := .tuple [.int k.1, .int k.2.1, .str k.2.2]
theorem min_cap {x r : Int} : min x r = capI x r := by unfold capI; split <;> omega
end Fw

namespace Fw
open PySem PySem.Spec PyProof.Rows L2
/-! ### rows as data -/
theorem Row.dp {K : PySem.W.Frag} {S : Dst} {H : Hp} {v : V} {k : KT} (h : Row S H v k.1 k.2.1 k.2.2) : Dp K H v (dK k) := by
  obtain ⟨p, rfl, hp, _⟩ := h
  exact .tup (SqT.of hp) (.cons (.int _) (.cons (.int _) (.cons (.str _) .nil)))
theorem dpAll_of {K : PySem.W.Frag} {H : Hp} : ∀ {ys : List V} {ks : List KT}, ys.length = ks.length → (∀ (i : Nat) (y : V) (k : KT), ys[i]? = some y → ks[i]? = some k → Dp K H y (dK k)) → DpAll K H ys (ks.map dK)
  | [], [], _, _ => .nil
  | y :: ys, k :: ks, hl, h => .cons (h 0 y k rfl rfl) (dpAll_of (Nat.succ.inj hl) fun i y' k' a b => h (i + 1) y' k' a b)
theorem RowsK.dp {K : PySem.W.Frag} {S : Dst} {H : Hp} {p : Addr} {ys : List V} {ks : List KT} (hp : H p = some (.lst ys)) (h : RowsK S H ys ks) : Dp K H (.ref p) (.list (ks.map dK)) := .lst (SqL.of hp) (dpAll_of h.1 fun i y k a b => (h.2 i y k a b).dp)
theorem can_dK {k : KT} (h : KVk k) : (dK k).canLay0 = true := by
  obtain ⟨u, d, s⟩ := k
  have hs := KV.side h
  dsimp only at hs
  unfold dK
  simp only [PyData.canLay0, PyData.canLayAll0, Bool.true_and, Bool.and_true]
  rcases hs with rfl | rfl | rfl <;> decide +kernel
theorem depth_dK (k : KT) : (dK k).depth = 1 := by unfold dK; simp [PyData.depth, PyData.depthAll]
theorem shaped_dK {k : KT} (h : KVk k) : SeqAt.shaped (dK k) = true := by
  unfold SeqAt.shaped
  rw [can_dK h, depth_dK]
  rfl
theorem shaped_dKs {ks : List KT} (h : ∀ k ∈ ks, KVk k) : SeqAt.shaped (.list (ks.map dK)) = true := by
  have a : PyData.canLayAll0 (ks.map dK) = true := by
    induction ks with
    | nil => rfl
    | cons k ks ih =>
      rw [List.map_cons, PyData.canLayAll0, can_dK (h k (by simp)), ih fun x hx => h x (by simp [hx])]
      rfl
  have b : PyData.depthAll (ks.map dK) ≤ 1 := by
    clear a h
    induction ks with
    | nil => simp [PyData.depthAll]
    | cons k ks ih =>
      rw [List.map_cons, PyData.depthAll, depth_dK]
      omega
  unfold SeqAt.shaped
  rw [PyData.canLay0, a, PyData.depth]
  rw [Bool.true_and]
  exact decide_eq_true (by omega)
theorem eqv_dK {a b : KT} : PyData.eqv (dK a) (dK b) = decide (a = b) := by
  obtain ⟨u, d, s⟩ := a
  obtain ⟨u', d', s'⟩ := b
  unfold dK
  simp only [PyData.eqv, PyData.eqvAll, Bool.and_true]
  rw [Bool.eq_iff_iff]
  simp
theorem any_dK {ks : List KT} {k : KT} : ((ks.map dK).any fun z => PyData.eqv z (dK k)) = ks.contains k := by
  rw [List.any_map, Bool.eq_iff_iff, List.any_eq_true, List.contains_iff_mem]
  constructor
  · rintro ⟨x, hx, e⟩
    have e2 : PyData.eqv (dK x) (dK k) = true := e
    rw [eqv_dK] at e2
    exact of_decide_eq_true e2 ▸ hx
  · intro h
    refine ⟨k, h, ?_⟩
    show PyData.eqv (dK k) (dK k) = true
    rw [eqv_dK]
    exact decide_eq_true rfl
/-- a list of cells -/
structure CellsP (S : Dst) (H : Hp) (v : V) (r : Nat) (ks : List KT) : Prop where
  q : ∃ p ys, v = .ref p ∧ H p = some (.lst ys) ∧ ¬ Sx S p ∧ RowsK S H ys ks
  ok : ∀ k ∈ ks, k ∈ cellsOf r
  len : ks.length ≤ 1000
theorem CellsP.mono {S : Dst} {H H1 : Hp} {v : V} {r : Nat} {ks : List KT} (h : CellsP S H v r ks) (e : Lx S H H1) : CellsP S H1 v r ks :=
  ⟨let ⟨p, ys, a, b, c, d⟩ := h.q; ⟨p, ys, a, e.1 _ _ c b, c, d.mono e⟩, h.ok, h.len⟩
theorem CellsP.to0 {S : Dst} {H : Hp} {v : V} {r : Nat} {ks : List KT} (h : CellsP S H v r ks) : CellsP none H v r ks :=
  ⟨let ⟨p, ys, a, b, c, d⟩ := h.q; ⟨p, ys, a, b, sx_none, d.to0⟩, h.ok, h.len⟩
/-- the drawing is over -/
theorem s_N {K : PySem.W.Frag} {S : Dst} {ts : TS} {D : Ends} {σ : L2.St} {H : Hp} (k : ∀ H1, Lx S H H1 → St K none ts D σ H1) : St K S ts D σ H := fun H1 e => k H1 e H1 Lx.rfl0
/-- o[i] = v of an own class, the last statement -/
theorem s_setO1 {K : PySem.W.Frag} {S : Dst} {σ : L2.St} {H : Hp} {a C : Addr} {fs : List (Str × V)} {i v : V} {sp : Sp} {E : XK} {ta tb te : TE} {D : Ends} (hv : Ev K S te σ H v) (ho : Ev K S ta σ H (.ref a)) (hi : Ev K S tb σ H i) (h : IA S H a C fs)
    (k : ∀ H1, Lx S H H1 → sp [.ref a, i, v] H1 (fun _ H2 => D.nx σ H2) E) : St K S (tAsg te (gSub ta tb (sSetO C sp E))) D σ H := fun H1 e =>
  hv H1 e _ fun H2 e2 => ho H2 (e.trans e2) _ fun H3 e3 => hi H3 ((e.trans e2).trans e3) _ fun H4 e4 => by
    have e5 := ((e.trans e2).trans e3).trans e4
    obtain ⟨⟨dx, q⟩, _⟩ := h.mono e5
    exact ⟨a, rfl, ⟨_, _, q⟩, k H4 e5⟩
/-! ### the law's own step -/
def preC (r i j : Nat) : List KT := ((List.range i).flatMap fun i => farRow r (i + 1)) ++ (List.range j).flatMap (farUp r (i + 1))
theorem preC_succ (r i j : Nat) : preC r i (j + 1) = preC r i j ++ farUp r (i + 1) j := by
  unfold preC
  rw [List.range_succ (n := j), List.flatMap_append, List.flatMap_singleton, List.append_assoc]
theorem preC_row (r i : Nat) : preC r i (r + 1) = preC r (i + 1) 0 := by
  unfold preC
  rw [List.range_succ (n := i), List.flatMap_append, List.flatMap_singleton, List.range_zero, List.flatMap_nil, List.append_nil]
  rfl
theorem preC_all (r : Nat) : preC r (2 * r) 0 = cellsOf r := by
  unfold preC
  rw [List.range_zero, List.flatMap_nil, List.append_nil]
  rfl
theorem farUp_len (r : Int) (far up : Nat) : (farUp r far up).length ≤ 2 := by
  unfold farUp
  dsimp only
  split
  · simp
  · split <;> simp
theorem preC_len {r i j : Nat} (r1 : r ≤ 4) (hi : i ≤ 8) (hj : j ≤ 5) : (preC r i j).length ≤ 500 := by
  have fl : ∀ (n far : Nat), ((List.range n).flatMap (farUp r far)).length ≤ 2 * n := by
    intro n far
    induction n with
    | zero => simp
    | succ n ih => rw [List.range_succ, List.flatMap_append, List.length_append]; have := farUp_len r far n; simp at *; omega
  have fr : ∀ n : Nat, ((List.range n).flatMap fun i => farRow r (i + 1)).length ≤ 10 * n := by
    intro n
    induction n with
    | zero => simp
    | succ n ih => rw [List.range_succ, List.flatMap_append, List.length_append]; have := fl (r + 1) (n + 1); unfold farRow at *; simp at *; omega
  have := fr i
  have := fl j (i + 1)
  unfold preC
  rw [List.length_append]
  omega
theorem cells_pos {r : Nat} (r0 : 1 ≤ r) (r1 : r ≤ 4) : 0 < (cellsOf r).length := by
  have : r = 1 ∨ r = 2 ∨ r = 3 ∨ r = 4 := by omega
  rcases this with rfl | rfl | rfl | rfl <;> decide +kernel
def sidesS (u d : Int) : List Str := if u = 0 ∨ d = 0 then ["line"] else ["elder", "younger"]
theorem sidesS_V (u d : Int) : (sidesS u d).map V.str = sidesL u d := by
  unfold sidesS sidesL
  split <;> rfl
theorem sides_kv {u d : Int} {s : Str} (h : s ∈ sidesS u d) (u0 : 0 ≤ u) (u1 : u ≤ 999) (d0 : 0 ≤ d) (d1 : d ≤ 999) : KV u d s := by
  refine ⟨u0, u1, d0, d1, ?_⟩
  unfold sidesS at h
  unfold fitsB
  split at h
  · rename_i z
    rw [if_pos z, List.mem_singleton.mp h]
    rfl
  · rename_i z
    rw [if_neg z]
    simp only [List.mem_cons, List.mem_nil_iff, or_false] at h
    rcases h with rfl | rfl <;> rfl
def valL (r : Nat) (ks : List KT) (s g v : Nat) (sds : List Str) : Bool := sds.any fun sd => ks.contains (capK r ((s : Int) - (v : Int), (g : Int) - (v : Int), sd))
def stepL (r : Nat) (ks : List KT) (s g : Nat) : Bool := (List.range (min s g + 1)).any fun v => valL r ks s g v (sidesS ((s : Int) - (v : Int)) ((g : Int) - (v : Int)))
theorem sideAt_some {r : Nat} {rows : List KT} {u d : Nat} (ok : ∀ k ∈ rows, k ∈ cellsOf r) (r1 : r ≤ 4) : (sideAt r rows u d).isSome = true ↔ ∃ sd ∈ sidesS u d, rows.contains (capK r ((u : Int), (d : Int), sd)) = true := by
  have hz : ((u : Int) = 0 ∨ (d : Int) = 0) ↔ (u = 0 ∨ d = 0) := by omega
  have zz : u = 0 ∧ d = 0 → ∀ sd, ¬ (rows.contains (capK r ((u : Int), (d : Int), sd)) = true) := by
    rintro ⟨rfl, rfl⟩ sd h
    rw [List.contains_iff_mem] at h
    have c := (cells_kv r1 (ok _ h)).2.2.2
    unfold capK capI at c
    dsimp only at c
    split at c <;> omega
  unfold sideAt sidesS letsR
  simp only [hz]
  by_cases z : u = 0 ∧ d = 0
  · simp only [if_pos z]
    constructor
    · intro h; cases h
    · rintro ⟨sd, _, h⟩
      exact absurd h (zz z sd)
  · simp only [if_neg z]
    by_cases y : u = 0 ∨ d = 0
    · simp only [if_pos y]
      by_cases h : rows.contains (capK r ((u : Int), (d : Int), "line")) = true
      · rw [if_pos h]; exact ⟨fun _ => ⟨_, List.mem_singleton.mpr rfl, h⟩, fun _ => rfl⟩
      · rw [if_neg h]
        refine ⟨fun z => (nomatch z), fun ⟨sd, hs, h2⟩ => ?_⟩
        rw [List.mem_singleton] at hs
        subst hs
        exact absurd h2 h
    · simp only [if_neg y]
      by_cases h : rows.contains (capK r ((u : Int), (d : Int), "elder")) = true
      · rw [if_pos h]; exact ⟨fun _ => ⟨_, List.mem_cons_self, h⟩, fun _ => rfl⟩
      · rw [if_neg h]
        by_cases h2 : rows.contains (capK r ((u : Int), (d : Int), "younger")) = true
        · rw [if_pos h2]; exact ⟨fun _ => ⟨_, List.mem_cons_of_mem _ (List.mem_singleton.mpr rfl), h2⟩, fun _ => rfl⟩
        · rw [if_neg h2]
          refine ⟨fun z => (nomatch z), fun ⟨sd, hs, h3⟩ => ?_⟩
          simp only [List.mem_cons, List.mem_nil_iff, or_false] at hs
          rcases hs with rfl | rfl
          · exact absurd h3 h
          · exact absurd h3 h2
theorem contains_iff {rows ks : List KT} (h : ∀ k, k ∈ rows ↔ k ∈ ks) (k : KT) : rows.contains k = ks.contains k := by
  rw [Bool.eq_iff_iff, List.contains_iff_mem, List.contains_iff_mem]
  exact h k
theorem stepL_eq {r : Nat} {rows ks : List KT} (h : ∀ k, k ∈ rows ↔ k ∈ ks) (ok : ∀ k ∈ rows, k ∈ cellsOf r) (r1 : r ≤ 4) (s g : Nat) : stepL r ks s g = stepB r rows s g := by
  rw [Bool.eq_iff_iff]
  unfold stepL stepB bestV valL
  rw [bestFrom_isSome, List.any_eq_true]
  have e : ∀ v : Nat, v ≤ min s g → ((s : Int) - (v : Int) = ((s - v : Nat) : Int) ∧ (g : Int) - (v : Int) = ((g - v : Nat) : Int)) := fun v hv => by omega
  constructor
  · rintro ⟨v, hv, q⟩
    rw [List.mem_range] at hv
    obtain ⟨e1, e2⟩ := e v (by omega)
    rw [e1, e2, List.any_eq_true] at q
    obtain ⟨sd, hs, q⟩ := q
    exact ⟨v, by omega, (sideAt_some ok r1).mpr ⟨sd, hs, by rw [contains_iff h]; exact q⟩⟩
  · rintro ⟨v, hv, q⟩
    obtain ⟨sd, hs, q⟩ := (sideAt_some ok r1).mp q
    obtain ⟨e1, e2⟩ := e v hv
    refine ⟨v, List.mem_range.mpr (by omega), ?_⟩
    rw [e1, e2, List.any_eq_true]
    exact ⟨sd, hs, by rw [← contains_iff h]; exact q⟩
/-! ### the table as the law reads it -/
structure TabL (S : Dst) (H : Hp) (v : V) (n : Nat) (cnt : Nat → Nat → Option Nat) : Prop where
  q : ∃ p ws, v = .ref p ∧ H p = some (.lst ws) ∧ ¬ Sx S p ∧ ws.length = n ∧ ∀ (i : Nat) (y : V), ws[i]? = some y → ∃ q, y = .ref q ∧ H q = some (.lst (rowN n (cnt i))) ∧ ¬ Sx S q
theorem TabL.mono {S : Dst} {H H1 : Hp} {v : V} {n : Nat} {cnt : Nat → Nat → Option Nat} (h : TabL S H v n cnt) (e : Lx S H H1) : TabL S H1 v n cnt :=
  ⟨let ⟨p, ws, a, b, c, d, f⟩ := h.q; ⟨p, ws, a, e.1 _ _ c b, c, d, fun i y hy => let ⟨q, x, z, w⟩ := f i y hy; ⟨q, x, e.1 _ _ w z, w⟩⟩⟩
/-- rows[i][j] -/
theorem TabL.ev {K : PySem.W.Frag} {S : Dst} {H : Hp} {v : V} {n : Nat} {cnt : Nat → Nat → Option Nat} {σ : L2.St} {t0 t1 t2 : TE} {i j : Nat} (h : TabL S H v n cnt) (h0 : Ev K S t0 σ H v) (h1 : Ev K S t1 σ H (.int (i : Int))) (h2 : Ev K S t2 σ H (.int (j : Int))) (hi : i < n) (hj : j < n) :
    Ev K S (tOp (rIxL K) (tOp (rIxL K) t0 t1) t2) σ H (oN (cnt i j)) := by
  obtain ⟨p, ws, rfl, hp, np, hl, f⟩ := h.q
  obtain ⟨q, hq, hr, nq⟩ := f i _ (List.getElem?_eq_getElem (by omega))
  exact ev_op (ev_op h0 h1 (rv_ixL (LA.of hp np) (at_of (j := i) rfl (by rw [List.getElem?_eq_getElem (by omega), hq])))) h2 (rv_ixL (LA.of hr nq) (at_of (j := j) rfl (rowN_get hj)))
theorem TabL.len {K : PySem.W.Frag} {S : Dst} {H : Hp} {v : V} {n : Nat} {cnt : Nat → Nat → Option Nat} {σ : L2.St} {t0 : TE} (h : TabL S H v n cnt) (h0 : Ev K S t0 σ H v) : Ev K S (tCB (rLn K) (tCons t0 tNil)) σ H (.int (n : Int)) := by
  obtain ⟨p, ws, rfl, hp, np, hl, f⟩ := h.q
  exact ev_is (ev_cb (ea_cons h0 ea_nil) (rc_len (LA.of hp np))) (by rw [hl])
/-- what an item is due to be -/
def ItemOk (step : Bool) (i j : Nat) (c : Option Nat) : Prop := (i = j → c = some 0) ∧ (i ≠ j → step = true → c = some 1) ∧ (i ≠ j → step = false → ∀ n, c = some n → 1 < n)
theorem Dist.item {r : Nat} {rows : List KT} {i j : Nat} {cnt bef : Nat → Option Nat} (d : Dist (goalsOf r rows) i cnt bef) (hj : j ≤ 2 * r) : ItemOk (stepB r rows i j) i j (cnt j) := by
  have g : stepB r rows i j = true → j ∈ goalsOf r rows i := fun h => List.mem_filter.mpr ⟨List.mem_range.mpr (by omega), h⟩
  refine ⟨fun e => ?_, fun ne h => ?_, fun ne h n hn => ?_⟩
  · subst e
    obtain ⟨c, h1, h2⟩ := d.least 0 i .nil
    have : c = 0 := by omega
    rw [h1, this]
  · obtain ⟨c, h1, h2⟩ := d.least 1 j (.snoc .nil (g h))
    have c0 : c ≠ 0 := fun z => by
      subst z
      have w := d.snd j 0 h1
      cases w
      exact ne rfl
    have : c = 1 := by omega
    rw [h1, this]
  · have w := d.snd j n hn
    rcases Nat.lt_or_ge 1 n with h2 | h2
    · exact h2
    · exfalso
      have : n = 0 ∨ n = 1 := by omega
      rcases this with rfl | rfl
      · cases w; exact ne rfl
      · cases w with
        | snoc w h3 =>
          cases w
          have := (List.mem_filter.mp h3).2
          rw [h] at this
          cases this
theorem Wk.cat {adj : Nat → List Nat} {a b c n m : Nat} (h : Wk adj a n b) (h2 : Wk adj b m c) : Wk adj a (n + m) c := by
  induction h2 with
  | nil => exact h
  | snoc _ hc ih => exact .snoc ih hc
end Fw

namespace Fw
open PySem PySem.Spec PyProof.Rows L2
theorem RowsK.append {S : Dst} {H : Hp} {ys zs : List V} {ks ls : List KT} (h : RowsK S H ys ks) (h2 : RowsK S H zs ls) : RowsK S H (ys ++ zs) (ks ++ ls) := by
  refine ⟨by simp [h.1, h2.1], fun i z q a c => ?_⟩
  by_cases hi : i < ys.length
  · rw [List.getElem?_append_left hi] at a
    rw [List.getElem?_append_left (by rw [← h.1]; exact hi)] at c
    exact h.2 i z q a c
  · rw [List.getElem?_append_right (by omega)] at a
    rw [List.getElem?_append_right (by rw [← h.1]; omega), ← h.1] at c
    exact h2.2 _ z q a c
theorem line_cells {r : Nat} (r0 : 1 ≤ r) (r1 : r ≤ 4) : (0, (r : Int), ("line" : Str)) ∈ cellsOf r ∧ ((r : Int), 0, ("line" : Str)) ∈ cellsOf r := by
  refine ⟨mem_cells ⟨?_, ?_, ?_, ?_, ?_⟩ ?_ ?_ ?_, mem_cells ⟨?_, ?_, ?_, ?_, ?_⟩ ?_ ?_ ?_⟩ <;> dsimp only
  · omega
  · omega
  · omega
  · omega
  · unfold fitsB; rw [if_pos (.inl rfl)]; rfl
  · omega
  · omega
  · omega
  · omega
  · omega
  · omega
  · omega
  · unfold fitsB; rw [if_pos (.inr rfl)]; rfl
  · omega
  · omega
  · omega
theorem rowN_succ {n : Nat} {f : Nat → Option Nat} : rowN (n + 1) f = rowN n f ++ [oN (f n)] := by
  unfold rowN
  rw [List.range_succ, List.map_append]
  rfl
theorem TableA.dist {K : PySem.W.Frag} {S : Dst} {H : Hp} {a : Addr} {r : Nat} {rows : List KT} {cnt bef : Nat → Nat → Option Nat} (t : TableA K S H a r rows cnt bef) {i : Nat} (hi : i ≤ 2 * r) : Dist (goalsOf r rows) i (cnt i) (bef i) := by
  obtain ⟨g, b, w, ia, lv, _, _, bs, ws, hb, hw, lb, lw, f⟩ := t.q
  exact (f i _ _ (List.getElem?_eq_getElem (by omega)) (List.getElem?_eq_getElem (by omega))).d
theorem valL_take {r : Nat} {ks : List KT} {s g v m : Nat} {sds : List Str} {sd : Str} (h : sds[m]? = some sd) : valL r ks s g v (sds.take (m + 1)) = (valL r ks s g v (sds.take m) || ks.contains (capK r ((s : Int) - (v : Int), (g : Int) - (v : Int), sd))) := by
  unfold valL
  rw [List.take_succ, h, List.any_append]
  simp
end Fw
namespace Fw
open PySem PySem.Spec PyProof.Rows L2
def dO : Option Nat → PyData
  | none => .none
  | some n => .int (n : Int)
theorem rp_oN {S : Dst} {H : Hp} (c : Option Nat) : Rp S H (oN c) (dO c) := by
  cases c with
  | none => exact .non
  | some n => exact .int _
section
variable {K : PySem.W.Frag} {S : Dst}
/-- [cell for cell in v if cell not in w] -/
theorem ex_notin {σ : L2.St} {G : Hp} {j : Nat} {ws : List Nat} {tz : TE} {v w : V} {r : Nat} {ks ls : List KT} (r1 : r ≤ 4) (cv : CellsP S G v r ks) (cw : CellsP S G w r ls) (hw : ∀ x, wipe ((wipe σ ws).set j (some x)) ws = wipe σ ws) (hj : ∀ x, ((wipe σ ws).set j (some x))[j]? = some (some x)) (hz : ∀ x H1, Lx S G H1 → Ev K S tz ((wipe σ ws).set j (some x)) H1 w) :
    EvX K S (tLc (iList K (tC v)) (gName j) (tTest (tOp (rNotInD K) (tVar j) tz)) (tVar j) ws) σ G (fun v H2 => ∃ zs, CellsP S H2 v r zs ∧ zs.length ≤ ks.length) := by
  obtain ⟨q, ys', rfl, hq, nq, hr'⟩ := cv.q
  obtain ⟨p, ys, rfl, hp, np, hr⟩ := cw.q
  have l1 := cv.len
  refine (ex_lcN ev_c (LA.of hq nq) (by rw [hr'.1, sizeLine_eq]; omega) hw (fun D i acc H' => ∃ zs, RowsK S H' acc zs ∧ (∀ k ∈ zs, k ∈ cellsOf r) ∧ zs.length ≤ i) (fun D H' _ _ _ _ => ⟨[], RowsK.nil, fun k hk => (nomatch hk), Nat.le_refl _⟩) ?_).imp ?_
  · rintro D i y acc G2 nD fD gD hi f2 ⟨zs, hz', okz, lz⟩
    have il := (List.getElem?_eq_some_iff.mp hi).1
    rw [hr'.1] at il
    have hki := List.getElem?_eq_getElem il
    have hx := (hr'.mono f2).2 i y _ hi hki
    have km := cv.ok _ (List.getElem_mem il)
    generalize ks[i] = kt at *
    refine (et_test (ev_op (ev_var (hj y)) (hz y G2 f2) (rv_notInD (d := dK kt) (ds := ls.map dK) (fun G f => (hx.mono f).dp) (fun G f => (hr.mono (f2.trans f)).dp ((f2.trans f).1 _ _ np hp)) (shaped_dK (cells_kv r1 km).1) (shaped_dKs fun k hk => (cells_kv r1 (cw.ok k hk)).1)))).toX.imp ?_
    rintro b G3 f3 rfl
    refine ⟨fun hb => (ev_var (hj y)).toX.imp fun w G4 f4 hw => ?_, fun hb => ⟨zs, hz'.mono f3, okz, by omega⟩⟩
    subst hw
    refine ⟨zs ++ [kt], (RowsK.snoc (hz'.mono (f3.trans f4)) (hx.mono (f3.trans f4))).stab ((f3.trans f4).1 _ _ nD gD), fun k hk => ?_, by rw [List.length_append]; exact Nat.succ_le_succ lz⟩
    rw [List.mem_append, List.mem_singleton] at hk
    rcases hk with h | rfl
    · exact okz k h
    · exact km
  · rintro v G2 f2 ⟨p', acc, rfl, _, np', hp', _, zs, hz', okz, lz⟩
    rw [hr'.1] at lz
    exact ⟨zs, ⟨⟨p', acc, rfl, hp', np', hz'⟩, okz, by omega⟩, lz⟩
/-- cells + more cells -/
theorem rvx_catC {H : Hp} {v w : V} {r : Nat} {ks ls : List KT} (cv : CellsP S H v r ks) (cw : CellsP S H w r ls) (hl : ks.length + ls.length ≤ 1000) : RVX K S rCat v w H (fun x H2 => CellsP S H2 x r (ks ++ ls)) := by
  obtain ⟨p, ys, rfl, hp, np, hr⟩ := cv.q
  obtain ⟨q, zs, rfl, hq, nq, hz⟩ := cw.q
  intro H1 e Q k
  refine rvx_cat (K := K) hp np hq nq (by rw [hr.1, hz.1, sizeLine_eq]; omega) H1 e Q fun x H2 e2 ⟨p', hx, _, np', hp'⟩ => k x H2 e2 ⟨⟨p', _, hx, hp', np', (hr.mono (e.trans e2)).append (hz.mono (e.trans e2))⟩, fun k hk => ?_, by rw [List.length_append]; exact hl⟩
  rw [List.mem_append] at hk
  exact hk.elim (cv.ok k) (cw.ok k)
end
/-! ### more cells, nearer -/
theorem Wk.mono {adj adj' : Nat → List Nat} {a b n : Nat} (h : ∀ x y, y ∈ adj x → y ∈ adj' x) (w : Wk adj a n b) : Wk adj' a n b := by
  induction w with
  | nil => exact .nil
  | snoc _ hc ih => exact .snoc ih (h _ _ hc)
theorem stepB_more {r : Nat} {rows rows' : List KT} (h : ∀ k, k ∈ rows → k ∈ rows') (ok : ∀ k ∈ rows, k ∈ cellsOf r) (ok' : ∀ k ∈ rows', k ∈ cellsOf r) (r1 : r ≤ 4) {s g : Nat} (hs : stepB r rows s g = true) : stepB r rows' s g = true := by
  unfold stepB bestV at *
  rw [bestFrom_isSome] at *
  obtain ⟨v, hv, q⟩ := hs
  obtain ⟨sd, hsd, q⟩ := (sideAt_some ok r1).mp q
  refine ⟨v, hv, (sideAt_some ok' r1).mpr ⟨sd, hsd, ?_⟩⟩
  rw [List.contains_iff_mem] at *
  exact h _ q
theorem goals_more {r : Nat} {rows rows' : List KT} (h : ∀ k, k ∈ rows → k ∈ rows') (ok : ∀ k ∈ rows, k ∈ cellsOf r) (ok' : ∀ k ∈ rows', k ∈ cellsOf r) (r1 : r ≤ 4) : ∀ x y, y ∈ goalsOf r rows x → y ∈ goalsOf r rows' x := fun x y hy => by
  unfold goalsOf at *
  rw [List.mem_filter] at *
  exact ⟨hy.1, stepB_more h ok ok' r1 hy.2⟩
end Fw

namespace Fw
open PySem PySem.Spec PyProof.Rows L2
/-! ### lists of numbers -/
abbrev iv : Nat → V := fun g => V.int (g : Int)
theorem flat_iv : ∀ {ls : List Nat}, (ls.map iv).all flatV = true
  | [] => rfl
  | _ :: ls => by rw [List.map_cons, List.all_cons, flat_iv (ls := ls)]; rfl
theorem inV_iv {y : Nat} {ls : List Nat} (h : y ∈ ls) : inV (.int (y : Int)) (ls.map iv) = true := by
  unfold inV
  rw [List.any_eq_true]
  exact ⟨iv y, List.mem_map.mpr ⟨y, h, rfl⟩, by simp [iv, eqV]⟩
theorem iv_get {ls : List Nat} {i g : Nat} (h : ls[i]? = some g) : (ls.map iv)[i]? = some (.int (g : Int)) := by rw [List.getElem?_map, h]; rfl
theorem rv_neg {K : PySem.W.Frag} {S : Dst} {H : Hp} {i : Int} : RU K S (fun x H Q => ∃ i, x = .int i ∧ Q (.int (-i)) H) (.int i) H (.int (-i)) := fun H1 e _ q => ⟨i, rfl, q H1 e.refl⟩
end Fw

namespace Fw
open PySem PySem.Spec PyProof.Rows L2
/-! ### o(a, ..), o an own instance -/
def tCallI (C : Addr) (sp : Sp) (E : XK) (ta : TE) (t : TA) : TE := fun σ H Q => ta σ H fun x H1 => ∃ a, x = .ref a ∧ t σ H1 fun vs H2 => (∃ dx fs, H2 a = some (.ins C dx fs)) ∧ sp (.ref a :: vs) H2 Q E
theorem callWith_I {M : Model} {A : Around} {E : Value → Shared → Prop} {s : Shared} {pos : Pos} {x : Addr} {first : List Value} {Q : Value → Shared → Prop} {args : List (Bool × Sem Value)} {keywords : List (Option Str × Sem Value)} (hplain : (args.any (·.1) || keywords.any (·.1.isNone)) = false)
    (h : wpAny M A (evalArgs (.ref x) true args keywords) (fun a s₁ => PySem.W.Looks M s₁.heap (keeperOf (.ref x)) .caller ∧ wpAny M A (call (.ref x) (first ++ a.pos) a.kw) Q E s₁) E s) : wpAny M A (callWith pos (.ref x) first args keywords) Q E s := by
  unfold callWith
  refine wpAny_bind (wpAny_holding (wpAny_mono h (fun a s₁ h₁ => wpAny_bind (wpAny_standAt ?_)) fun _ _ y => y))
  simp only [hplain]
  refine wpAny_bind (h₁.1.here ?_)
  exact wpAny_bind (wpAny_mono (PySem.wpAny_operateT h₁.2) (fun r s₂ hr => wpAny_bind (wpAny_holding (wpAny_point (wpAny_pure hr)))) fun _ _ y => y)
section
variable {X : Cx} {CX : CXT} {k : Nat} {C g : Addr} {ps : List Str} {sp : Sp} {E : XK} {x : Str} {e : Expr} {es : List Expr} {t : TA} {ta : TE} {p pos : Pos}
theorem pe_callI (K : PySem.W.Frag) (hK : X.K = K) (he : PE X (.Name x p) ta) (hm : Meth K C "__call__" g) (hf : PySem.W.fnIn K g = true) (F : Ok X.prog X.w K X.mg X.base CX k g ps sp) (hr : Room k X.A) (hx : Passes CX X E) (ha : PA X (e :: es) t)
    (hst : starEach (e :: es) X.env = (false, eval e X.env) :: starEach es X.env := by rfl) (hpl : (backTo pos (starEach es X.env)).any (·.1) = false := by rfl) :
    PE X (.Call (.Name x p) (e :: es) [] pos) (tCallI C sp E ta t) := by
  subst hK
  refine ⟨fun pins s σ H Q I h => ?_⟩
  refine wpAny_Call_Name_kw (thn (he.run pins s σ H _ I h) fun u s1 hh => ?_)
  obtain ⟨x, H1, I1, rx, a, ex, q⟩ := hh
  subst ex
  obtain rfl : u = Value.ref a := rx
  have run := ha.run pos pins s1 σ H1 _ I1 q
  rw [hst] at run ⊢
  refine callWith_I (by show ((false || (backTo pos (starEach es X.env)).any (·.1)) || false) = false; rw [hpl]; rfl) (PySem.Calls.evalArgs_plain (wpAny_mono run (fun us s2 hh => ?_) fun _ _ z => z))
  obtain ⟨vs, H2, I2, r, hi, q2⟩ := hh
  obtain ⟨dx, fs, hi⟩ := hi
  obtain ⟨mA, O, _⟩ := ins_get I2.hok hi
  obtain ⟨od, J, _⟩ := O.look
  exact ⟨PySem.W.kco_keeper J rfl, wpAny_call (PySem.W.kco_code I2.kIn J rfl hm.at_ hm.fn hf (run_fnR (us := .ref a :: us) (vs := .ref a :: vs) F.r hr hx I2 (.cons rfl r) q2))⟩
end
section
variable {X : Cx} {CX : CXT} {k : Nat} {C g : Addr} {ps : List Str} {sp : Sp} {E : XK} {x : Str} {q pos : Pos}
/-- C() -/
theorem pe_makeO0 (M : Mk X.K C g) (F : Ok X.prog X.w X.K X.mg X.base CX k g ps sp) (hr : Room (k + 1) X.A) (hg : Gl X x) (hm : X.mg x = some (.ref C)) (hx : Passes CX X E) (hdb : (x == ("__debug__" : Str)) = false := by decide) : PE X (.Call (.Name x q) [] [] pos) (StX.tMakeR C sp E tNil) := by
  refine ⟨fun pins s σ H Q I h => ?_⟩
  refine wpAny_Call_Name_kw (ld_glob I hg hm ?_ hdb)
  exact PySem.W.callWith_K0 I.kIn M.kp (StX.run_makeR (us := []) M F.r hr hx I .nil h)
end
section
variable {K : PySem.W.Frag} {S : Dst} {σ : L2.St} {H : Hp} {ta te : TE} {tas : TA} {C a : Addr} {fs : List (Str × V)} {vs : List V} {P : V → Hp → Prop}
theorem ex_callI {sp : Sp} {E : XK} (ho : Ev K S ta σ H (.ref a)) (i : IA S H a C fs) (h : EvA K S tas σ H vs) (k : SpX K S sp (.ref a :: vs) H E P) : EvX K S (tCallI C sp E ta tas) σ H P := fun H1 e Q q => ho H1 e _ fun H2 e2 =>
  ⟨a, rfl, h H2 (e.trans e2) _ fun H3 e3 => by
    have w3 := (e.trans e2).trans e3
    obtain ⟨⟨dx, q3⟩, _⟩ := i.mono w3
    exact ⟨⟨_, _, q3⟩, k H3 w3 _ fun z H4 e4 p => q z H4 ((e2.trans e3).trans e4) p⟩⟩
end
end Fw

namespace Fw
open PySem PySem.Spec PyProof.Rows L2 NdefX
/-! ### isinstance of a caught exception with fields -/
theorem kitx_exc {K : PySem.W.Frag} {x D : Addr} {ox : Obj} {od : Option Obj} (C : ExcC K D) : PySem.W.KitX K (.ref x) (.ref D) (fun h => PySem.W.InstAt h x ox D od) where
  ty := fun _ _ _ I => I.type
  it := fun M h X I => by
    obtain ⟨cd, hc, _⟩ := PySem.W.any_some C.hd
    unfold PySem.W.clsIn at hc
    split at hc
    · rename_i ho
      intro A Q E s k q
      obtain ⟨hh, g, d, t, os⟩ := s
      exact PySem.ks_wpAny_isType_cls (k _ _ (X _ _ ho)) rfl q
    · cases hc
  ne := fun h tp dd its n sl X htp => by
    obtain ⟨cd, hc, _⟩ := PySem.W.any_some C.hd
    unfold PySem.W.clsIn at hc
    split at hc
    · rename_i ho
      by_cases e : D = tp
      · subst e
        have z := X _ _ ho
        rw [htp] at z
        cases z
      · simpa using e
    · cases hc
  ca := fun X I k => PySem.W.kx_classE X I C.hg C.hk C.hs (PySem.W.findObj_dataE (by obtain ⟨cd, hc, _⟩ := PySem.W.any_some C.hd; rw [hc]; rfl) C.ha C.hn C.ht) C.hm k
/-- isinstance(e, c), e the exception that the suite holds, of the class at D -/
def rIsX (K : PySem.W.Frag) (a : Addr) (cls : Value) (d : Option Addr) : List V → Hp → VK → Prop := fun xs H Q => ∃ (D dd : Addr) (fs : List (Str × V)) (c : V) (cv : Value) (b : Bool), cls = .ref D ∧ ExcC K D ∧ d = some dd ∧ H dd = some (.xd fs) ∧ xs = [.ref a, c] ∧ (∀ u, RelV c u → u = cv) ∧ PySem.W.kitOne K (.ref D) cv = some b ∧ Q (.bl b) H
theorem call_isX {X : Cx} {a : Addr} {cls : Value} {d : Option Addr} {oe : Obj} {pn : List (Addr × Obj)} (hz : Zc cls d oe) (hf : ∃ vs, oe.data = .fields vs) : CallR (X.suite a ((a, oe) :: pn)) (.builtin "isinstance") (rIsX X.K a cls d) := by
  intro pins s σ H xs us Q I r h
  obtain ⟨D, dd, fs, c, cv, b, rfl, C, rfl, hdd, rfl, hcv, e, q⟩ := h
  cases r with
  | cons rx rr =>
    cases rr with
    | cons rt rr =>
      cases rr
      cases rx
      have ec := hcv _ rt
      subst ec
      obtain ⟨hget, _⟩ := I.pin (a, oe) (List.mem_append.mpr (.inl List.mem_cons_self))
      obtain ⟨vs, hv⟩ := hf
      have hx : ObjOk X.prog X.w H s.heap dd (.xd fs) := I.hok dd _ hdd
      obtain ⟨mA, hns, _⟩ := hx
      obtain ⟨od, ho, _⟩ := lookIn_ns hns
      have J : PySem.W.InstAt s.heap a oe D (some od) := ⟨hget, hz.1, by unfold PySem.W.notCls; rw [hv] <;> rfl, by rw [hz.2]; exact ho⟩
      exact PySem.W.kia_one (kitx_exc C) I.kIn J e (fun z => nomatch z) fun tk => ⟨.bl b, H, I.kept (t' := tk) fun _ _ z => z, rfl, q⟩
end Fw
namespace Fw
open PySem PySem.Spec PyProof.Rows L2 NdefX
/-! ### defs called within an except suite -/
def OkH (P : Program) (w : World) (K : PySem.W.Frag) (mg : Str → Option Value) (base : Heap) (CX : CXT) (k : Nat) (f : Addr) (ps : List Str) (sp : Sp) : Prop :=
  ∃ fd : FuncData, L2H.FnH P w K mg base CX k f fd ps sp ∧ Binds K fd ps [] ∧ PySem.W.keepIn K (.ref f) = true
section
variable {P : Program} {w : World} {K : PySem.W.Frag} {mg : Str → Option Value} {base : Heap}
theorem OkH.mono {CX : CXT} {j k : Nat} {f : Addr} {ps : List Str} {sp : Sp} (h : OkH P w K mg base CX j f ps sp) (l : j ≤ k) : OkH P w K mg base CX k f ps sp := by
  obtain ⟨fd, a, b⟩ := h
  exact ⟨fd, ⟨a.len, fun A outer s H args us vs Q E p hr => a.run A outer s H args us vs Q E p (hr.mono l)⟩, b⟩
theorem okDH {x qual : Str} {st : Stmt} {f : Addr} {N ps : List Str} {k : Nat} {sp : Sp} (F : FnIs K x qual st f) (S : FnScope N ps (defScope st))
    (hb : ∀ (kV doc pm : Value) (an : Option Addr) (cdv ct : Value) (us : List Value), us.length = ps.length → bindArgs (PySem.W.fnOf x qual (defArgs st) (defBody st) (defScope st) .none kV doc pm an cdv ct) ⟨us, []⟩ = pure (ps.zip us))
    (len : ∀ vs H Q E, sp vs H Q E → vs.length = ps.length)
    (hbody : ∀ (cdv : Value) (A : Around) (outer : List Env) (s : Shared) (H : Hp) (vs : List V) (Q : VK) (E : XK) (p : Addr × Obj), L2H.Hot1 A p → L2H.RoomH k (A.deeper (envOfC qual (defScope st) s.heap.objs.size f cdv)) → sp vs H Q E →
      ∃ t, PSs (L2H.cxH CX0 P w K mg base N qual (defScope st) f cdv A outer s H E p).nox (defBody st) t ∧ t { nx := fun _ H' => Q .non H', rt := Q } (start N vs) H) : OkH P w K mg base CX0 (k + 1) f ps sp := by
  obtain ⟨fd, F⟩ := F
  obtain ⟨oc, od, dV, kV, doc, pm, an, cdv, ct, osl, e, lk, hcd, hd, _⟩ := F.ex
  have hdn : dV = .none := by
    rcases hd with ⟨_, e2⟩ | ⟨e2, _⟩
    · exact e2
    · exact absurd rfl e2
  subst hdn
  refine ⟨fd, ?_, F.bindsN hb, F.kp⟩
  subst e
  exact L2H.fn_ofH lk hcd S len fun A outer s H vs Q E p hot hr hsp => by
    obtain ⟨t, h, q⟩ := hbody cdv A outer s H vs Q E p hot hr hsp
    exact ⟨t, h.nox, q⟩
theorem ok_zeroH {CX : CXT} {x qual : Str} {st : Stmt} {f : Addr} {ps : List Str} {sp : Sp} (F : FnIs K x qual st f)
    (hb : ∀ (kV doc pm : Value) (an : Option Addr) (cdv ct : Value) (us : List Value), us.length = ps.length → bindArgs (PySem.W.fnOf x qual (defArgs st) (defBody st) (defScope st) .none kV doc pm an cdv ct) ⟨us, []⟩ = pure (ps.zip us)) (h : ∀ vs H Q E, ¬ sp vs H Q E) : OkH P w K mg base CX 0 f ps sp := by
  obtain ⟨fd, F⟩ := F
  exact ⟨fd, ⟨fun _ _ _ _ z => (h _ _ _ _ z).elim, fun _ _ _ _ _ _ _ _ _ _ _ _ _ _ _ _ z => (h _ _ _ _ z).elim⟩, F.bindsN hb, F.kp⟩
end
section
variable {X : Cx} {CX : CXT} {k : Nat} {f : Addr} {ps : List Str} {sp : Sp} {x : Str} {p pos : Pos} {e : Expr} {es : List Expr} {t : TA}
theorem pe_callOH (hc : L2H.HotC X) (F : OkH X.prog X.w X.K X.mg X.base CX k f ps sp) (hr : L2H.RoomH k X.A) (hg : Gl X x) (hm : X.mg x = some (.ref f)) (hx : Passes CX X E0) (ha : PA X (e :: es) t)
    (hdb : (x == ("__debug__" : Str)) = false := by decide) (he : starEach (e :: es) X.env = (false, eval e X.env) :: starEach es X.env := by rfl) (hpl : (backTo pos (starEach es X.env)).any (·.1) = false := by rfl) :
    PE X (.Call (.Name x p) (e :: es) [] pos) (tCall sp [] E0 t) := by
  obtain ⟨fd, F, hb, hk⟩ := F
  refine ⟨fun pins s σ H Q I h => ?_⟩
  refine wpAny_Call_Name_kw (ld_glob I hg hm ?_ hdb)
  refine PySem.W.callWith_K (h₀ := X.base) I.ok.mod.kin hk (thn (ha.run pos pins s σ H _ I h) fun us s1 hh => ?_) he hpl
  obtain ⟨vs, H1, I1, r, q⟩ := hh
  rw [List.append_nil] at q
  exact ⟨I1.kIn, L2H.run_fnH (E := fun _ => E0) F hr hc hb (fun pins' H' s' e' s'' I' c => hx pins' σ H' s' e' s'' I' c) I1 r q⟩
end
theorem hot_in {CX : CXT} {P : Program} {w : World} {K : PySem.W.Frag} {mg : Str → Option Value} {base : Heap} {N : List Str} {qual : Str} {scope : Scope} {f : Addr} {cd : Value} {A : Around} {outer : List Env} {s : Shared} {H : Hp} {E : XK} {p : Addr × Obj} (hot : L2H.Hot1 A p) : L2H.HotC (L2H.cxH CX P w K mg base N qual scope f cd A outer s H E p).nox :=
  ⟨p, hot, List.mem_singleton.mpr rfl⟩
theorem hot_suite {X : Cx} {a : Addr} {oe : Obj} {cls : Value} {d : Option Addr} {pn : List (Addr × Obj)} (hz : L2N.Zn cls d oe) (hf : ∃ vs, oe.data = .fields vs) : L2H.HotC (X.suite a ((a, oe) :: pn)) := by
  obtain ⟨vs, hv⟩ := hf
  exact ⟨(a, oe), ⟨rfl, vs, hv, hz.2.2 vs hv⟩, List.mem_cons_self⟩
end Fw
namespace Fw
open PySem PySem.Spec PyProof.Rows L2 NdefX
/-! ### defs that raise -/
section
variable {P : Program} {w : World} {K : PySem.W.Frag} {mg : Str → Option Value} {base : Heap}
theorem okDX {x qual : Str} {st : Stmt} {f : Addr} {N ps : List Str} {k : Nat} {sp : Sp} (F : FnIs K x qual st f) (S : FnScope N ps (defScope st))
    (hb : ∀ (kV doc pm : Value) (an : Option Addr) (cdv ct : Value) (us : List Value), us.length = ps.length → bindArgs (PySem.W.fnOf x qual (defArgs st) (defBody st) (defScope st) .none kV doc pm an cdv ct) ⟨us, []⟩ = pure (ps.zip us))
    (len : ∀ vs H Q E, sp vs H Q E → vs.length = ps.length)
    (hbody : ∀ (cdv : Value) (A : Around) (outer : List Env) (s : Shared) (H : Hp) (vs : List V) (Q : VK) (E : XK), Room k (A.deeper (envOfC qual (defScope st) s.heap.objs.size f cdv)) → sp vs H Q E →
      ∃ t, PSs (cxOf (L2N.CX P w) P w K mg base N qual (defScope st) f cdv A outer s H E) (defBody st) t ∧ t { nx := fun _ H' => Q .non H', rt := Q } (start N vs) H) : Ok P w K mg base (L2N.CX P w) (k + 1) f ps sp := by
  obtain ⟨fd, F⟩ := F
  exact ⟨fd, F.ok S len fun cdv A outer s H vs Q E hr hsp => hbody cdv A outer s H vs Q E hr hsp, F.bindsN hb, F.kp, by obtain ⟨oc, od, _, _, _, _, _, _, _, osl, _, lk, _⟩ := F.ex; exact ⟨oc, od, osl, lk⟩⟩
end
/-- a promise of a def that may raise: what comes back, what is raised -/
def sp_xe (A : List V → Hp → Dst → (V → Hp → Prop) → (Value → Addr → Hp → Prop) → Prop) : Sp := fun vs H Q E => ∃ S P PE, A vs H S P PE ∧ Lx S H H ∧ (∀ v H', Lx S H H' → P v H' → Q v H') ∧ ∀ cls d H', Lx S H H' → PE cls d H' → E cls (some d) H'
/-- what is raised: an exception of the class at C with these fields -/
def Rais (S : Dst) (H : Hp) (C : Addr) (fs : List (Str × V)) : Value → Addr → Hp → Prop := fun cls d H' => cls = .ref C ∧ H d = none ∧ ¬ Sx S d ∧ H' d = some (.xd fs)
section
variable {K : PySem.W.Frag} {S : Dst} {σ : L2.St} {H : Hp} {tas : TA} {ta te tc : TE} {D : Ends} {C a : Addr} {ws vs : List V} {names : List Str} {txt : Str}
/-- raise C(..) -/
theorem s_raise {W : WX} (h : EvA K S tas σ H ws) (hl : ws.length = names.length) (hz : ws.length ≤ 900) (k : ∀ d H1, Lx S H H1 → Rais S H C ((names.zip ws).reverse ++ [(("reason" : Str), V.str txt)]) (.ref C) d H1 → W (.ref C) (some d) σ H1) :
    St K S (fun _ σ H => tMkO C (sp_exc C txt names) [] tas σ H fun cls d H' => W cls d σ H') D σ H := fun H1 e => h H1 e _ fun H2 e2 => ⟨by omega, fun x hx => by
  have w2 := e.trans e2
  rw [List.append_nil]
  refine ⟨x, ws, rfl, hl, upd_same, fun H' X => ?_⟩
  obtain ⟨dx, d1, d2, d3, d4, d5⟩ := X.q
  rw [upd_ne d2] at d1
  refine ⟨rfl, dx, _, d3, d4, d1, ?_⟩
  have keep : ∀ b o, H2 b = some o → upd (del H' x) dx (.xd ((names.zip ws).reverse ++ [(("reason" : Str), V.str txt)])) b = some o := fun b o hb => by
    have bx := ne_of_none hb hx
    rw [upd_ne (ne_of_none hb d1), del_ne bx]
    exact d5 b o bx (by rw [upd_ne bx]; exact hb)
  have w3 : Lx S H2 (upd (del H' x) dx (.xd ((names.zip ws).reverse ++ [(("reason" : Str), V.str txt)]))) := ⟨fun b o _ hb => keep b o hb, fun p hp => by
    obtain ⟨ns, a, b, c, d, q1, q2, q3⟩ := w2.2 p hp
    exact ⟨ns, a, b, c, d, keep _ _ q1, q2, keep _ _ q3⟩⟩
  exact k dx _ (w2.trans w3) ⟨rfl, w2.fresh d1, w2.ns d1, upd_same⟩⟩
/-- o.m(..) in a try's body -/
def tMethS (C : Addr) (m : Str) (sp : Sp) (E : L2.St → XK) (ta : TE) (t : TA) : TE := fun σ H Q => ta σ H fun x H1 => ∃ a dx fs, x = .ref a ∧ H1 a = some (.ins C dx fs) ∧ fs.lookup m = none ∧ t σ H1 fun vs H2 => sp (.ref a :: vs) H2 Q (E σ)
/-- err.f, isinstance(err, c) -/
theorem ev_xf {cls : Value} {d : Option Addr} {dd x : Addr} {fs : List (Str × V)} {f : Str} {v : V} (h : Ev K S te σ H (.ref x)) (hc : cls = .ref C) (hd : d = some dd) (hx : H dd = some (.xd fs)) (nd : ¬ Sx S dd) (l : fs.lookup f = some v) : Ev K S (tXf x cls d C f te) σ H v := fun H1 e Q q =>
  h H1 e _ fun H2 e2 => ⟨rfl, hc, dd, fs, v, hd, (e.trans e2).1 _ _ nd hx, l, q H2 e2⟩
theorem ev_isx {cls : Value} {d : Option Addr} {DD dd x : Addr} {fs : List (Str × V)} {c : V} {cv : Value} {b : Bool} (h : Ev K S te σ H (.ref x)) (h2 : Ev K S tc σ H c) (hc : cls = .ref DD) (X : ExcC K DD) (hd : d = some dd) (hx : H dd = some (.xd fs)) (nd : ¬ Sx S dd) (hcv : ∀ u, RelV c u → u = cv) (hk : PySem.W.kitOne K (.ref DD) cv = some b) :
    Ev K S (tCB (rIsX K x cls d) (tCons te (tCons tc tNil))) σ H (.bl b) := fun H1 e Q q =>
  ea_cons h (ea_cons h2 ea_nil) H1 e _ fun H2 e2 => ⟨DD, dd, fs, c, cv, b, hc, X, hd, (e.trans e2).1 _ _ nd hx, rfl, hcv, hk, q H2 e2⟩
/-- try: o.m(..) except .. as n: suite, where the call raises -/
theorem s_try {sp : Sp} {c : Value} {i : Nat} {ts : Addr → Value → Option Addr → TS} {Wout : WX} {m : Str} {fs : List (Str × V)} {PE : Value → Addr → Hp → Prop} (ho : Ev K S ta σ H (.ref a)) (ia : IA S H a C fs) (l : fs.lookup m = none) (h : EvA K S tas σ H vs)
    (k : ∀ H1, Lx S H H1 → ∀ (Q : VK) (E : XK), (∀ cls d H2, Lx S H1 H2 → PE cls d H2 → E cls (some d) H2) → sp (.ref a :: vs) H1 Q E)
    (kk : ∀ cls d H2, Lx S H H2 → PE cls d H2 → PySem.W.exmOne K cls c = some true ∧ ∀ x, H2 x = none →
      St K S (ts x cls (some d)) { nx := fun σ' H' => D.nx (σ'.set i none) H', rt := D.rt, bk := fun σ' H' => D.bk (σ'.set i none) H', ct := fun σ' H' => D.ct (σ'.set i none) H' } (σ.set i (some (.ref x))) H2) :
    St K S (fun D σ H => tDrop (tMethS C m sp (WE (wAs K c i ts Wout D)) ta tas) D σ H) D σ H := fun H1 e => ho H1 e _ fun H2 e2 => by
  obtain ⟨⟨dx, q2⟩, _⟩ := ia.mono (e.trans e2)
  refine ⟨a, dx, fs, rfl, q2, l, h H2 (e.trans e2) _ fun H3 e3 => ?_⟩
  have w3 := (e.trans e2).trans e3
  refine k H3 w3 _ _ fun cls d H4 e4 pe => ?_
  obtain ⟨h1, h2⟩ := kk cls d H4 (w3.trans e4) pe
  exact ⟨true, h1, fun _ x hx => h2 x hx H4 (w3.trans e4).refl, fun z => by cases z⟩
theorem spx_xe {A : List V → Hp → Dst → (V → Hp → Prop) → (Value → Addr → Hp → Prop) → Prop} {P' : V → Hp → Prop} (k : ∀ H1, Lx S H H1 → ∃ P PE, A vs H1 none P PE ∧ (∀ v H2, Lx S H1 H2 → P v H2 → P' v H2) ∧ ∀ cls d H2, ¬ PE cls d H2) : SpX K S (sp_xe A) vs H E0 P' := fun H1 e Q q => by
  obtain ⟨P, PE, a, i, n⟩ := k H1 e
  exact ⟨none, P, PE, a, Lx.rfl0, fun v H' e2 p => q v H' (e.refl.of0 e2) (i v H' (e.refl.of0 e2) p), fun cls d H' _ z => (n _ _ _ z).elim⟩
end
section
variable {X : Cx} {CX : CXT} {k : Nat} {C g : Addr} {ps : List Str} {sp : Sp} {E : L2.St → XK} {m : Str} {e o : Expr} {es : List Expr} {t : TA} {ta : TE} {pos apos : Pos}
theorem pe_methS {pl : Sem Bool} (he : PE X o ta) (c : Cls X.K C) (hm : Meth X.K C m g) (F : Ok X.prog X.w X.K X.mg X.base CX k g ps sp) (hr : Room k X.A) (hx : ∀ σ, PassesAt CX X σ (E σ)) (ha : PA X (e :: es) t)
    (hst : starEach (e :: es) X.env = (false, eval e X.env) :: starEach es X.env := by rfl) (hpl : (backTo pos (starEach es X.env)).any (·.1) = false := by rfl)
    (ht : eval (.Call (.Attribute o m apos) (e :: es) [] pos) X.env = (do
      let ov ← eval o X.env
      standAt apos.atName
      let (f, first) ← holding [ov] (getMethod ov m pl)
      callWith pos f first (backTo pos (starEach (e :: es) X.env)) (backToKw pos (keywordEach [] X.env))) := by rfl) :
    PE X (.Call (.Attribute o m apos) (e :: es) [] pos) (tMethS C m sp E ta t) := by
  obtain ⟨fd, F, hb, hk, _⟩ := F
  refine ⟨fun pins s σ H Q I h => ?_⟩
  refine PySem.W.methodCall_KW (pl := pl) (thn (he.run pins s σ H _ I h) fun u s1 hh => ?_) ht
  obtain ⟨x, H1, I1, rx, a, dx, fs, ex, ea, l, q⟩ := hh
  subst ex
  obtain rfl : u = Value.ref a := rx
  refine getmeth_ok I1 ea c hm l ?_
  refine PySem.W.callWith_K (first := [.ref a]) (h₀ := X.base) I.ok.mod.kin hm.kp (thn (ha.run pos pins s1 σ H1 _ I1 q) fun us s2 hh => ?_) hst hpl
  obtain ⟨vs, H2, I2, r, q2⟩ := hh
  exact ⟨I2.kIn, run_fnS (us := .ref a :: us) (vs := .ref a :: vs) F hr hb (hx σ) I2 (.cons rfl r) q2⟩
theorem passS {X : Cx} {W : WX} (tk : L2N.Takes X W) : ∀ σ, PassesAt (L2N.CX X.prog X.w) X σ (WE W σ) := fun σ => L2N.passAt tk σ
end
end Fw

namespace Fw
open PySem PySem.Spec PyProof.Rows L2
section
variable {K : PySem.W.Frag} {S : Dst} {σ : L2.St} {H : Hp} {ta te : TE} {tz : TS} {D : Ends} {l : Addr} {vs xs : List V}
/-- a call that may raise -/
theorem spx_xE {A : List V → Hp → Dst → (V → Hp → Prop) → (Value → Addr → Hp → Prop) → Prop} {E : XK} {P' : V → Hp → Prop} (k : ∀ H1, Lx S H H1 → ∃ P PE, A vs H1 none P PE ∧ (∀ v H2, Lx S H1 H2 → P v H2 → P' v H2) ∧ ∀ cls d H2, Lx S H1 H2 → PE cls d H2 → E cls (some d) H2) : SpX K S (sp_xe A) vs H E P' := fun H1 e Q q => by
  obtain ⟨P, PE, a, i, n⟩ := k H1 e
  exact ⟨none, P, PE, a, Lx.rfl0, fun v H' e2 p => q v H' (e.refl.of0 e2) (i v H' (e.refl.of0 e2) p), fun cls d H' e2 z => n _ _ _ (e.refl.of0 e2) z⟩
/-- .. that does not raise here, whatever is caught -/
theorem spx_xN {A : List V → Hp → Dst → (V → Hp → Prop) → (Value → Addr → Hp → Prop) → Prop} {E : XK} {P' : V → Hp → Prop} (k : ∀ H1, Lx S H H1 → ∃ P PE, A vs H1 none P PE ∧ (∀ v H2, Lx S H1 H2 → P v H2 → P' v H2) ∧ ∀ cls d H2, ¬ PE cls d H2) : SpX K S (sp_xe A) vs H E P' := spx_xE fun H1 e => by
  obtain ⟨P, PE, a, i, n⟩ := k H1 e
  exact ⟨P, PE, a, i, fun _ _ _ _ z => (n _ _ _ z).elim⟩
theorem Rais.back {H1 H' : Hp} {C : Addr} {fs : List (Str × V)} {cls : Value} {d : Addr} (e : Lx S H H1) (r : Rais S H1 C fs cls d H') : Rais S H C fs cls d H' := by
  obtain ⟨a, b, c, f⟩ := r
  exact ⟨a, e.fresh b, c, f⟩
/-- l.reverse() -/
theorem s_rev (hl : H l = some (.lst xs)) (ns : ¬ Sx S l) (ho : Ev K S ta σ H (.ref l)) (k : ∀ H1, Lx S (upd H l (.lst xs.reverse)) H1 → tz D σ H1) : St K S (tSeq (tDrop (tBM0 K "list" rReverse ta)) tz) D σ H := fun H1 e => ho H1 e _ fun H2 e2 =>
  ⟨.inl ⟨rfl, _, SqL.of ((e.trans e2).1 l _ ns hl)⟩, l, xs, rfl, rfl, (e.trans e2).1 l _ ns hl, k _ ((e.trans e2).upd ns)⟩
end
/-! ### routes, plainly -/
structure RouteP (adj : Nat → List Nat) (i j n : Nat) (ls : List Nat) : Prop where
  len : ls.length = n + 1
  fst : ls[0]? = some i
  lst : ls[n]? = some j
  stp : ∀ (k x y : Nat), ls[k]? = some x → ls[k + 1]? = some y → y ∈ adj x
/-- a route from behind, m steps still to go -/
structure Bk (adj : Nat → List Nat) (j m n x : Nat) (acc : List Nat) : Prop where
  len : acc.length + m = n + 1
  fst : acc[0]? = some j
  lst : acc[acc.length - 1]? = some x
  stp : ∀ (k x y : Nat), acc[k]? = some x → acc[k + 1]? = some y → x ∈ adj y
theorem Bk.start {adj : Nat → List Nat} {j n : Nat} : Bk adj j n n j [j] := ⟨by simp; omega, rfl, rfl, fun k x y _ h => by simp at h⟩
theorem Bk.next {adj : Nat → List Nat} {j m n x y : Nat} {acc : List Nat} (B : Bk adj j (m + 1) n x acc) (h : x ∈ adj y) : Bk adj j m n y (acc ++ [y]) := by
  have l0 : 0 < acc.length := (List.getElem?_eq_some_iff.mp B.fst).1
  refine ⟨by rw [List.length_append]; have := B.len; simp; omega, by rw [List.getElem?_append_left l0]; exact B.fst, by rw [List.length_append]; simp, fun k a b ha hb => ?_⟩
  by_cases hk : k + 1 < acc.length
  · rw [List.getElem?_append_left (by omega)] at ha hb
    exact B.stp k a b ha hb
  · have h2 := (List.getElem?_eq_some_iff.mp hb).1
    rw [List.length_append] at h2
    have e : k = acc.length - 1 := by simp at h2; omega
    subst e
    rw [List.getElem?_append_left (by omega), B.lst] at ha
    rw [List.getElem?_append_right (by omega)] at hb
    have z : acc.length - 1 + 1 - acc.length = 0 := by omega
    rw [z] at hb
    simp at ha hb
    subst ha hb
    exact h
theorem Bk.route {adj : Nat → List Nat} {i j n : Nat} {acc : List Nat} (B : Bk adj j 0 n i acc) : RouteP adj i j n acc.reverse := by
  have L := B.len
  have l0 : 0 < acc.length := (List.getElem?_eq_some_iff.mp B.fst).1
  refine ⟨by rw [List.length_reverse]; omega, by rw [List.getElem?_reverse l0]; exact B.lst, ?_, fun k x y hx hy => ?_⟩
  · rw [List.getElem?_reverse (by omega)]
    have z : acc.length - 1 - n = 0 := by omega
    rw [z]
    exact B.fst
  · have h2 := (List.getElem?_eq_some_iff.mp hy).1
    rw [List.length_reverse] at h2
    rw [List.getElem?_reverse (by omega)] at hx hy
    have z : acc.length - 1 - k = acc.length - 1 - (k + 1) + 1 := by omega
    rw [z] at hx
    exact B.stp _ _ _ hy hx
end Fw
namespace Fw
open PySem PySem.Spec PyProof.Rows L2
theorem wk_zero {adj : Nat → List Nat} {a n b : Nat} (w : Wk adj a n b) (h : n = 0) : b = a := by
  cases w with
  | nil => rfl
  | snoc _ _ => cases h
theorem dist_lt {r : Nat} {rows : List KT} {i g c : Nat} {cnt bef : Nat → Option Nat} (D : Dist (goalsOf r rows) i cnt bef) (hi : i ≤ 2 * r) (h : cnt g = some c) : g < 4 * r + 1 := by
  cases D.snd _ _ h with
  | nil => omega
  | snoc _ m => exact List.mem_range.mp (List.mem_filter.mp m).1
end Fw
namespace Fw
open PySem PySem.Spec PyProof.Rows L2
/-- -1 where nothing is -/
def oM : Option Nat → V
  | none => .int (-1)
  | some n => .int (n : Int)
def rowM (n : Nat) (f : Nat → Option Nat) : List V := (List.range n).map fun u => oM (f u)
theorem rowM_len {n : Nat} {f : Nat → Option Nat} : (rowM n f).length = n := by unfold rowM; rw [List.length_map, List.length_range]
theorem rowM_get {n u : Nat} {f : Nat → Option Nat} (h : u < n) : (rowM n f)[u]? = some (oM (f u)) := by unfold rowM; rw [List.getElem?_map, List.getElem?_range h]; rfl
theorem rowM_set {n u v : Nat} {f : Nat → Option Nat} : (rowM n f).set u (.int (v : Int)) = rowM n (setF f u v) := by
  apply List.ext_getElem?
  intro i
  by_cases hi : i < n
  · rw [rowM_get hi]
    by_cases e : u = i
    · subst e
      rw [List.getElem?_set_self (by rw [rowM_len]; exact hi)]
      unfold setF
      rw [if_pos rfl]
      rfl
    · rw [List.getElem?_set_ne e, rowM_get hi]
      unfold setF
      rw [if_neg (fun z => e z.symm)]
  · rw [List.getElem?_eq_none (by rw [List.length_set, rowM_len]; omega), List.getElem?_eq_none (by rw [rowM_len]; omega)]
theorem rowM_none {n : Nat} : (List.replicate n [V.int (-1)]).flatten = rowM n fun _ => none := by
  unfold rowM
  induction n with
  | zero => rfl
  | succ n ih => rw [List.range_succ, List.map_append, ← ih, List.replicate_succ', List.flatten_append]; rfl
/-- a list of the goals of each level -/
structure GoalsA (S : Dst) (H : Hp) (v : V) (n : Nat) (adj : Nat → List Nat) : Prop where
  q : ∃ p rs, v = .ref p ∧ H p = some (.lst rs) ∧ ¬ Sx S p ∧ rs.length = n ∧ ∀ (i : Nat) (y : V), rs[i]? = some y → ∃ q, y = .ref q ∧ H q = some (.lst ((adj i).map iv)) ∧ ¬ Sx S q
theorem GoalsA.mono {S : Dst} {H H1 : Hp} {v : V} {n : Nat} {adj : Nat → List Nat} (h : GoalsA S H v n adj) (e : Lx S H H1) : GoalsA S H1 v n adj := by
  obtain ⟨p, rs, a, b, c, d, f⟩ := h.q
  exact ⟨p, rs, a, e.1 _ _ c b, c, d, fun i y hy => let ⟨q, x, y, z⟩ := f i y hy; ⟨q, x, e.1 _ _ z y, z⟩⟩
theorem GoalsA.len {K : PySem.W.Frag} {S : Dst} {H : Hp} {v : V} {n : Nat} {adj : Nat → List Nat} {σ : L2.St} {t0 : TE} (h : GoalsA S H v n adj) (h0 : Ev K S t0 σ H v) : Ev K S (tCB (rLn K) (tCons t0 tNil)) σ H (.int (n : Int)) := by
  obtain ⟨p, rs, rfl, a, b, rfl, _⟩ := h.q
  exact ev_cb (ea_cons h0 ea_nil) (rc_len (LA.of a b))
theorem GoalsA.row {S : Dst} {H : Hp} {v : V} {n i : Nat} {adj : Nat → List Nat} (h : GoalsA S H v n adj) (hi : i < n) : ∃ q, (∀ {K : PySem.W.Frag} {σ : L2.St} {t0 t1 : TE} {H' : Hp}, Lx S H H' → Ev K S t0 σ H' v → Ev K S t1 σ H' (.int (i : Int)) → Ev K S (tOp (rIxL K) t0 t1) σ H' (.ref q)) ∧ H q = some (.lst ((adj i).map iv)) ∧ ¬ Sx S q := by
  obtain ⟨p, rs, rfl, a, b, rfl, f⟩ := h.q
  obtain ⟨q, hq, x, z⟩ := f i _ (List.getElem?_eq_getElem hi)
  exact ⟨q, fun e h0 h1 => ev_op h0 h1 (rv_ixL (LA.of (e.1 _ _ b a) b) (at_of (j := i) rfl (by rw [List.getElem?_eq_getElem hi, hq]))), x, z⟩
def goalsL (r : Nat) (ks : List KT) (i : Nat) : List Nat := (List.range (4 * r + 1)).filter fun g => stepL r ks i g
theorem goalsL_eq {r : Nat} {rows ks : List KT} (h : ∀ k, k ∈ rows ↔ k ∈ ks) (ok : ∀ k ∈ rows, k ∈ cellsOf r) (r1 : r ≤ 4) : goalsL r ks = goalsOf r rows := by
  funext i
  unfold goalsL goalsOf
  congr 1
  funext g
  exact stepL_eq h ok r1 i g
theorem goalsL_lt {r : Nat} {ks : List KT} {i g : Nat} (h : g ∈ goalsL r ks i) : g < 4 * r + 1 := List.mem_range.mp (List.mem_filter.mp h).1
section
variable {K : PySem.W.Frag} {S : Dst} {σ : L2.St} {H : Hp} {ta tb te : TE} {D : Ends} {tz : TS} {v : V} {l : Addr} {xs : List V} {i : Int}
/-- l.insert(i, v) -/
theorem s_insert (hl : H l = some (.lst xs)) (ns : ¬ Sx S l) (ho : Ev K S ta σ H (.ref l)) (hi : Ev K S tb σ H (.int i)) (hv : Ev K S te σ H v) (hz : xs.length < sizeLine) (h0 : 0 ≤ i) (h1 : i < 2 ^ 63) (k : St K S tz D σ (upd H l (.lst (xs.take i.toNat ++ [v] ++ xs.drop i.toNat)))) :
    St K S (tSeq (tDrop (tBM K "list" (fun x vs H Q => ∃ (l : Addr) (xs : List V) (i : Int) (y : V), x = .ref l ∧ vs = [.int i, y] ∧ H l = some (.lst xs) ∧ xs.length < sizeLine ∧ 0 ≤ i ∧ i < 2 ^ 63 ∧ Q .non (upd H l (.lst (xs.take i.toNat ++ [y] ++ xs.drop i.toNat)))) ta (tCons tb (tCons te tNil)))) tz) D σ H := fun H1 e => ho H1 e _ fun H2 e2 =>
  ⟨.inl ⟨rfl, _, SqL.of ((e.trans e2).1 l _ ns hl)⟩, hi H2 (e.trans e2) _ fun H3 e3 => hv H3 ((e.trans e2).trans e3) _ fun H4 e4 =>
    have e5 := ((e.trans e2).trans e3).trans e4
    ⟨l, xs, i, v, rfl, rfl, e5.1 l _ ns hl, hz, h0, h1, k _ (e5.upd ns)⟩⟩
end
end Fw
namespace Fw
open PySem PySem.Spec PyProof.Rows L2
theorem s_sq {K : PySem.W.Frag} {S : Dst} {σ : L2.St} {H : Hp} {tu tz : TS} {D : Ends} (h : St K S tu { D with nx := tz D } σ H) : St K S (tSeq tu tz) D σ H := h
end Fw
namespace Fw
open PySem PySem.Spec PyProof.Rows L2
theorem Dist.uniq {adj : Nat → List Nat} {f : Nat} {c c' b b' : Nat → Option Nat} (D : Dist adj f c b) (D' : Dist adj f c' b') (g : Nat) : c g = c' g := by
  cases h : c g with
  | none =>
    cases h' : c' g with
    | none => rfl
    | some n =>
      obtain ⟨d, e, _⟩ := D.least n g (D'.snd g n h')
      rw [h] at e
      cases e
  | some n =>
    obtain ⟨d, h', l1⟩ := D'.least n g (D.snd g n h)
    obtain ⟨m, e, l2⟩ := D.least d g (D'.snd g d h')
    rw [h] at e
    cases e
    rw [h']
    congr 1
    omega
theorem Drw.mono0 {H H1 : Hp} {st l : Addr} (d : Drw H st l) (e : Lx none H H1) : Drw H1 st l := by
  obtain ⟨ns, p, c, n, b, h1, h2, h3⟩ := d
  exact ⟨ns, p, c, n, b, e.1 _ _ sx_none h1, h2, e.1 _ _ sx_none h3⟩
end Fw

/-! an operator of instances of two own classes -/
namespace PySem.W
open PySem PySem.Spec PySem.Calls PyProof.Rows
def fwNo (K : Frag) (C : Addr) (nm : String) : Bool := match clsIn K C with
  | some cd => cd.mro.all fun c => He.eqO (findIn K c (PySem.dunder nm)) (some none) && He.eqO (findIn K c (dunderR nm)) (some none)
  | none => false
section
variable {M : Model} {K : Frag} {C : Addr} {h : Heap} {nm : String}
theorem fw_anyF {α : Type} {f : α → Sem Bool} : ∀ {l : List α}, (∀ c ∈ l, Looks M h (f c) false) → Looks M h (l.anyM f) false
  | [], _ => .now
  | c :: r, H => (H c List.mem_cons_self).andThen (fw_anyF fun d hd => H d (List.mem_cons_of_mem _ hd))
theorem fw_fills0 (X : K.In h) (hc : fwNo K C nm = true) : Looks M h (fillsNumberSlot (.ref C) nm) false := by
  unfold fwNo at hc
  cases q : clsIn K C with
  | none => rw [q] at hc; cases hc
  | some cd =>
    rw [q] at hc
    have hall : ∀ c ∈ cd.mro, findIn K c (PySem.dunder nm) = some none ∧ findIn K c (dunderR nm) = some none := fun c hm => by
      obtain ⟨a, b⟩ := He.ba (List.all_eq_true.mp hc c hm)
      exact ⟨He.eqO_ok a, He.eqO_ok b⟩
    intro A Q E s k hq
    unfold fillsNumberSlot
    refine wpAny_bind ((looks_clsIn X q).andThen (f := fun cd => pure cd.mro) .now A _ E s k ?_)
    refine fw_anyF (M := M) (h := h) (fun c hm => ?_) A Q E s k hq
    obtain ⟨h1, h2⟩ := hall c hm
    intro A Q E s k q
    obtain ⟨hh, g, d, tt, os⟩ := s
    have X' : K.In hh := X.keeps k
    have L1 : Looks M hh (typeLookup c (PySem.dunder nm)) none := looks_findIn X' h1
    have L2 : Looks M hh (typeLookup c (dunderR nm)) none := looks_findIn X' h2
    have rest : ∀ f : Str → Sem Bool, (∀ x, f x = (do
        let y ← typeLookup c x
        match y with
          | some y => if (!ownNameWrapper y x) = true then pure true else do
              let z ← inheritsSeqSlot c x
              pure !z
          | y => pure false)) → wpAny M A (List.anyM f [PySem.dunder nm, dunderR nm]) Q E ⟨hh, g, d, tt, os⟩ := fun f hf => by
      refine fw_anyF (h := hh) (fun x hx => ?_) A Q E _ (fun _ _ z => z) q
      rw [hf]
      have e : findIn K c x = some none := by
        simp only [List.mem_cons, List.mem_nil_iff, or_false] at hx
        rcases hx with rfl | rfl
        · exact h1
        · exact h2
      exact (looks_findIn X' e).andThen .now
    cases c <;> (first | exact rest _ (fun _ => rfl) | exact wpAny_bind (L1.at (wpAny_bind (L2.at (wpAny_pure q)))))
end
section
variable {prog : Program} {w : World} {A : Around} {E : Value → Shared → Prop} {s : Shared} {K : Frag} {x y C D L f : Addr} {h₀ : Heap} {m : Str → Option Value} {ox oy : Obj} {od oe : Option Obj}
theorem fw_binOwn {op : Operator} {Q : Value → Shared → Prop} (F : Fr h₀ L s.heap m) (X₀ : K.In h₀) (I : InstAt s.heap x ox C od) (J : InstAt s.heap y oy D oe) (ne : C ≠ D) (hc : selfFirst K C = true)
    (hs : findIn K (.ref C) (PySem.dunder op.info.2) = some (some (.ref f))) (hf : isFn K (.ref f) = true) (hno : fwNo K D op.info.2 = true) (h : wpAny (model prog w) A (call (.ref f) [.ref x, .ref y]) (CmpBack Q) E s) : wpAny (model prog w) A (binaryOp op (.ref x) (.ref y)) Q E s := by
  have X := X₀.keeps F.keep
  obtain ⟨cd, rest, hcd, hm⟩ := ksp_first hc
  rcases hi : op.info with ⟨sym, nm'⟩
  rw [hi] at hs hno
  dsimp only at hs hno
  have one := ksp_try X I hs hf h
  obtain ⟨hh, g, d, tt, os⟩ := s
  have L1 : Looks (model prog w) hh (typeOf (.ref x)) (.ref C) := I.type
  have L2 : Looks (model prog w) hh (typeOf (.ref y)) (.ref D) := J.type
  have L3 : Looks (model prog w) hh (fillsNumberSlot (.ref C) nm') true := fills_K X hcd hm hs
  have L4 : Looks (model prog w) hh (fillsNumberSlot (.ref D) nm') false := fw_fills0 X hno
  have hne : (Value.ref C == Value.ref D) = false := by simpa using ne
  simp only [binaryOp, hi]
  refine wpAny_holding (wpAny_bind ?_)
  unfold binaryOp1
  refine wpAny_bind (L1.at (wpAny_bind (L2.at (wpAny_bind (L3.at ?_)))))
  simp only [hne, Bool.false_eq_true, if_false]
  ksp_lk
  refine wpAny_mono one (fun r s' hr' => ?_) fun _ _ e => e
  obtain ⟨v, rfl, hq⟩ := hr'
  ksp_lk
  exact hq
end
end PySem.W
namespace Fw
open PySem PySem.Spec PyProof.Rows L2
def noB (K : PySem.W.Frag) (x : Str) (nm : String) : Bool := PySem.W.fwNo K (He.ga K x) nm
def rBinO (C D : Addr) (sp : Sp) (E : XK) : R2 := fun x y H Q => ∃ a b, x = .ref a ∧ y = .ref b ∧ (∃ dx fs, H a = some (.ins C dx fs)) ∧ (∃ dx fs, H b = some (.ins D dx fs)) ∧ sp [.ref a, .ref b] H Q E
section
variable {X : Cx} {CX : CXT} {k : Nat} {C D g : Addr} {ps : List Str} {sp : Sp} {op : Operator}
theorem op_binO {E : XK} (K : PySem.W.Frag) (hK : X.K = K) (hc : PySem.W.selfFirst K C = true) (ne : PySem.W.kitOne K (.ref C) (.ref D) = some false) (hno : PySem.W.fwNo K D op.info.2 = true) (hm : Meth K C (PySem.dunder op.info.2) g) (F : Ok X.prog X.w K X.mg X.base CX k g ps sp) (hr : Room k X.A) (hx : Passes CX X E) : OpR X (binaryOp op) (rBinO C D sp E) := by
  subst hK
  intro pins s σ H x y v u Q I rx ry h
  obtain ⟨p, q, rfl, rfl, hp, hq, z⟩ := h
  cases (show v = Value.ref p from rx)
  cases (show u = Value.ref q from ry)
  obtain ⟨_, _, J⟩ := inst_at I hp
  obtain ⟨_, _, J2⟩ := inst_at I hq
  obtain ⟨m, hF⟩ := I.fr
  have ne' : C ≠ D := fun e => by subst e; rw [kit_self] at ne; cases ne
  refine PySem.W.fw_binOwn hF I.ok.mod.kin J J2 ne' hc hm.at_ hm.fn hno (wpAny_mono (wpAny_call (run_fnR (us := [.ref p, .ref q]) (vs := [.ref p, .ref q]) F.r hr hx I (.cons rfl (.cons rfl .nil)) z)) (fun w s' z => ?_) fun _ _ x => x)
  obtain ⟨z', H', I', rz, qz⟩ := z
  exact SlX.cmpback rz ⟨z', H', I', rz, qz⟩
end
section
variable {K : PySem.W.Frag} {S : Dst} {σ : L2.St} {H : Hp} {C D a b : Addr} {fs gs : List (Str × V)} {sp : Sp} {P : V → Hp → Prop}
theorem rvx_binO {E : XK} (i : IA S H a C fs) (j : IA S H b D gs) (k : SpX K S sp [.ref a, .ref b] H E P) : RVX K S (rBinO C D sp E) (.ref a) (.ref b) H P := fun H1 e Q q => by
  obtain ⟨⟨dx, q1⟩, _⟩ := i.mono e
  obtain ⟨⟨dy, q2⟩, _⟩ := j.mono e
  exact ⟨a, b, rfl, rfl, ⟨_, _, q1⟩, ⟨_, _, q2⟩, k H1 e Q q⟩
end
/-! ### C(e, .., *y) -/
section
variable {X : Cx} {CX : CXT} {k : Nat} {C g : Addr} {sp : Sp} {E : XK} {x : Str} {e : Expr} {es : List Expr} {t : TA} {te : TE} {pos p q : Pos}
theorem pe_makeVS (M : Mk X.K C g) (F : OkV X.prog X.w X.K X.mg X.base k g sp) (hr : Room (k + 1) X.A) (hg : Gl X x) (hm : X.mg x = some (.ref C)) (hx : Passes CX0 X E) (ha : PA X (e :: es) t) (hdb : (x == ("__debug__" : Str)) = false := by decide)
    (he : starEach (e :: es) X.env = (false, eval e X.env) :: starEach es X.env := by rfl) (hst : (backTo pos (starEach es X.env)).any (·.1) = true := by rfl) : PE X (.Call (.Name x q) (e :: es) [] pos) (StX.tMakeR C sp E t) := by
  refine ⟨fun pins s σ H Q I h => wpAny_Call_Name_kw (ld_glob I hg hm ?_ hdb)⟩
  refine PySem.W.callWith_S2 (h₀ := X.base) I.ok.mod.kin M.kp (thn (ha.run pos pins s σ H _ I h) fun us s1 hh => ?_) he hst
  obtain ⟨vs, H1, I1, r, qq⟩ := hh
  exact ⟨I1.kIn, StX.run_makeR M F.1 hr hx I1 r qq⟩
theorem pa_starK (K : PySem.W.Frag) (hK : X.K = K) (he : PE X e te) (hr : PA X es t) (hs : starEach (.Starred e p :: es) X.env = (true, eval e X.env) :: starEach es X.env := by rfl) : PA X (.Starred e p :: es) (StX.tStar K te t) := by subst hK; exact StX.pa_star he hr hs
end
section
variable {K : PySem.W.Frag} {S : Dst} {σ : L2.St} {H : Hp} {te : TE} {tas : TA} {p : Addr} {xs vs : List V} {P : V → Hp → Prop} {PA : List V → Hp → Prop}
theorem ea_starL (h : Ev K S te σ H (.ref p)) (hx : LA K S H p xs) (hr : EvA K S tas σ H vs) : EvA K S (StX.tStar K te tas) σ H (xs ++ vs) := fun H1 e Q q =>
  h H1 e _ fun H2 e2 => ⟨p, xs, rfl, .inr (hx.mono (e.trans e2)).q, hr H2 (e.trans e2) _ fun H3 e3 => q H3 (e2.trans e3)⟩
theorem ea_starT (h : Ev K S te σ H (.ref p)) (hx : UA K S H p xs) (hr : EvA K S tas σ H vs) : EvA K S (StX.tStar K te tas) σ H (xs ++ vs) := fun H1 e Q q =>
  h H1 e _ fun H2 e2 => ⟨p, xs, rfl, .inl (hx.mono (e.trans e2)).q, hr H2 (e.trans e2) _ fun H3 e3 => q H3 (e2.trans e3)⟩
end
end Fw

namespace Fw
open PySem PySem.Spec PyProof.Rows L2
/-! ### {k: v for x in xs}, the keys tuples -/
section
variable {X : Cx}
theorem put_dT {pins : List (Addr × Obj)} {σ : L2.St} {H : Hp} {s : Shared} {E : Value → Shared → Prop} {D b : Addr} {kvs : List (List Key × V)} {ks : List Key} {v : V} {u r : Value} {Q : Unit → Shared → Prop} (hu : X.A.units + 1 < cLine) (I : Inv X pins σ H s) (hD : H D = some (.dT kvs)) (hz : kvs.length < sizeLine)
    (hb : H b = some (.tup (ks.map kV))) (ry : RelV (.ref b) u) (rv : RelV v r) (h : ∀ s', Inv X pins σ (upd H D (.dT (putK kvs ks v))) s' → Q () s') : wpAny (model X.prog X.w) X.A (dictSet D u r) Q E s := by
  cases (show u = Value.ref b from ry)
  obtain ⟨z, hd, xs, rel, dd⟩ := dt_of I.hok hD
  have lx : xs.length ≤ sizeLine := by rw [← Paired.length rel]; exact z
  have lp : (putK kvs ks v).length ≤ sizeLine := by have := length_putK kvs ks v; omega
  refine wpAny_dictSet_heap (hsz := lx) (show (tupleKind (mixKind X.prog X.w)).room X.A from by show X.A.units < cLine; omega) (key_of I.hok hb) dd fun h' dd' hs => h _ ?_
  obtain ⟨q, es, ep, hq, h2, h3, h4, _, h5⟩ := dd'
  refine d_write I (by rw [hD]; exact True.intro) hs ⟨q, hq⟩ ⟨lp, hd, _, (rel.put ks hb rv).keeps fun c ys ec => ?_, q, es, ep, hq, h2, h3, h4, h5⟩
  rw [upd_ne (ne_of ec hD (fun z => nomatch z))]
  exact ec
def tDcT (wi : TI) (g : TG) (tt : TT) (tk tv : TE) (vs : List Nat) : TE := fun σ H Q => wi σ H fun J H1 => ∀ D, H1 D = none → ∃ W : Nat → Nat → Hp → Prop, (∃ m, W 0 m (upd H1 D (.dT []))) ∧ ∀ i m H, W i m H →
  (J.stop i H ∧ Q (.ref D) H) ∨ (J.go i H ∧ ∃ N : Hp → Prop, (∀ H', N H' → ∃ m', m' < m ∧ W (i + 1) m' H') ∧ ∀ x H', J.yld i H x H' → g x (wipe σ vs) H' fun σ2 H2 => wipe σ2 vs = wipe σ vs ∧ tt σ2 H2 fun b H3 =>
    if b = true then tk σ2 H3 fun y H4 => tv σ2 H4 fun z H5 => ∃ (kvs : List (List Key × V)) (ks : List Key) (q : Addr), y = .ref q ∧ H5 q = some (.tup (ks.map kV)) ∧ H5 D = some (.dT kvs) ∧ kvs.length < sizeLine ∧ N (upd H5 D (.dT (putK kvs ks z))) else N H3)
theorem dcT_core {pins : List (Addr × Obj)} {s : Shared} {σ : L2.St} {H : Hp} {Q : VK} {kx vx tg iter : Expr} {ifs : List Expr} {scope : Scope} {own : List (Str × Nat)} {pos pos' : Pos} {wi : TI} {g : TG} {tt : TT} {tk tv : TE} {use : Option (Value → Sem Unit)} {Qf : Value → Shared → Prop}
    (hu : X.A.units + 64 < cLine) (hc : X.calm = true) (hN : X.N.Nodup) (I : Inv X pins σ H s) (hi : PI X tg iter wi) (ok : BlkOk X.N X.env.scope scope own)
    (hg : ∀ (s : Shared) (H : Hp) (C : Addr) (cl : List (Str × Addr)) (fp : List Addr), PG (X.blk s H scope (compEnvC scope cl C X.env) fp) tg g) (ht : ∀ (s : Shared) (H : Hp) (C : Addr) (cl : List (Str × Addr)) (fp : List Addr), PTs (X.blk s H scope (compEnvC scope cl C X.env) fp) ifs tt)
    (hk : ∀ (s : Shared) (H : Hp) (C : Addr) (cl : List (Str × Addr)) (fp : List Addr), PE (X.blk s H scope (compEnvC scope cl C X.env) fp) kx tk)
    (he : ∀ (s : Shared) (H : Hp) (C : Addr) (cl : List (Str × Addr)) (fp : List Addr), PE (X.blk s H scope (compEnvC scope cl C X.env) fp) vx tv) (hs : ∀ x, foldedSetIterable iter X.env x = pure x)
    (h : tDcT wi g tt tk tv (own.map (·.2)) σ H Q)
    (hRR : ∀ D C s' m H', Inv X pins σ H' s' → Q (.ref D) H' → s'.heap.Ns C m → FpOk X pins H' C → compPost (model X.prog X.w) X.A X.xe use Qf (.ref D) C (.ok .next) s') :
    wpAny (model X.prog X.w) X.A (comprehension (.DictComp kx vx [⟨tg, iter, ifs, 0⟩] scope pos) scope X.env pos' newDict false (eval iter X.env) use) Qf X.xe s := by
  have frees : ∀ y ∈ scope.names, y.2 = .free → ∃ c, X.env.cells.lookup y.1 = some c := fun y hy e => by
    rcases ok.free y hy e with k | k
    · exact I.ok.has _ (.inl k)
    · exact I.ok.has _ (.inr k)
  refine wpAny_comprehension_free (use := use) rfl hs (closure_ok frees) ok.kind (fun y hy e => by rw [ok.uniq y hy, e]) (thn (hi.run pins s σ H _ I h) fun xv s1 hx => thn hx fun itv s2 h2 => ?_)
  obtain ⟨it, fp, tn, J, H2, e, I2, T, st2, f2, q⟩ := h2
  subst e
  refine wpAny_newObj_type (newEnv_comp ?_)
  obtain ⟨D, eD⟩ : ∃ D, D = s2.heap.objs.size := ⟨_, rfl⟩
  rw [← eD]
  have fD : H2 D = none := I2.hok.fresh (Nat.le_of_eq eD.symm)
  obtain ⟨W, ⟨m0, w0⟩, turn⟩ := q D fD
  obtain ⟨s3, e3⟩ : ∃ s3 : Shared, s3 = { s2 with heap := s2.heap.push { cls := .type "dict", data := .dict #[] } } := ⟨_, rfl⟩
  have I3 : Inv X pins σ (upd H2 D (.dT [])) s3 := by
    rw [e3]
    refine I2.laid (t' := s2.toks) (fun b o e => Heap.get?_push_of_some _ e) (Nat.le_of_eq eD.symm) ?_
    rw [eD]
    exact dt_empty s2.heap I2.big
  have h3 : s3.heap = s2.heap.push { cls := .type "dict", data := .dict #[] } := by rw [e3]
  have low : ∀ b ∈ fp, b < s2.heap.objs.size := fun b hb => let ⟨o, e, _⟩ := T.obj _ _ st2 b hb; Heap.lt_size e
  have f3 : ∀ b ∈ fp, FpOk X pins (upd H2 D (.dT [])) b ∧ b < s3.heap.objs.size := fun b hb => by
    have l := low b hb
    refine ⟨⟨?_, (f2 b hb).2⟩, by rw [h3, Heap.size_push]; exact Nat.lt_succ_of_lt l⟩
    rw [upd_ne (by rw [eD]; exact Nat.ne_of_lt l)]
    exact (f2 b hb).1
  have st3 : tn 0 s3.heap := T.keep _ _ _ st2 fun b _ o e => by rw [h3]; exact Heap.get?_push_of_some _ e
  have I4 := block_start I3 ok hN f3
  have rg := hg s3 (upd H2 D (.dT [])) s3.heap.objs.size (cellsFrom (s3.heap.objs.size + 1) scope.names (cloFrom X.env.cells scope.names [])) fp
  have rt := ht s3 (upd H2 D (.dT [])) s3.heap.objs.size (cellsFrom (s3.heap.objs.size + 1) scope.names (cloFrom X.env.cells scope.names [])) fp
  have rk := hk s3 (upd H2 D (.dT [])) s3.heap.objs.size (cellsFrom (s3.heap.objs.size + 1) scope.names (cloFrom X.env.cells scope.names [])) fp
  have re := he s3 (upd H2 D (.dT [])) s3.heap.objs.size (cellsFrom (s3.heap.objs.size + 1) scope.names (cloFrom X.env.cells scope.names [])) fp
  rw [← e3]
  show codeAny _ _ (.compStart (.DictComp kx vx [⟨tg, iter, ifs, 0⟩] scope pos) 0 (.ref it) (.ref D) (compEnvC scope (cellsFrom (s3.heap.objs.size + 1) scope.names (cloFrom X.env.cells scope.names [])) s3.heap.objs.size X.env)) (compPost (model X.prog X.w) X.A X.xe use Qf (.ref D) s3.heap.objs.size) { s3 with heap := pushCells (s3.heap.push { cls := .type "dict", data := .dict #[] }) scope.names }
  have nfp : ∀ b ∈ fp, (upd H2 D (.dT [])) b = none := fun b hb => (f3 b hb).1.1
  generalize hce : compEnvC scope (cellsFrom (s3.heap.objs.size + 1) scope.names (cloFrom X.env.cells scope.names [])) s3.heap.objs.size X.env = ce at I4 rg rt rk re ⊢
  have cL : ce.locals = s3.heap.objs.size := by subst hce; rfl
  generalize upd H2 D (.dT []) = H3 at I3 I4 rg rt rk re w0 nfp f3
  generalize hs4 : ({ s3 with heap := pushCells (s3.heap.push { cls := .type "dict", data := .dict #[] }) scope.names } : Shared) = s4 at I4 ⊢
  have st4 : tn 0 s4.heap := T.keep _ _ _ st3 fun b _ o e => by rw [← hs4]; exact pushCells_keeps _ _ _ _ (Heap.get?_push_of_some _ e)
  have stay : ∀ {σ' : L2.St} {H' : Hp} {s' : Shared}, Inv (X.blk s3 H3 scope ce fp) [] σ' H' s' → (∀ b ∈ fp, H' b = none) → ∀ b ∈ fp, FpOk (X.blk s3 H3 scope ce fp) [] H' b := fun {σ' H' s'} I' hn b hb =>
    ⟨hn b hb, (I'.ok.exf b hb).1, I'.ok.exfs b hb, .inl hb, fun x c e => (I'.ok.exf b hb).2 x c e, fun p hp => absurd (show p ∈ ([] : List (Addr × Obj)) ++ [] from hp) (by simp)⟩
  have loop : codeAny (model X.prog X.w) X.A (.compLoop (.DictComp kx vx [⟨tg, iter, ifs, 0⟩] scope pos) 0 (.ref it) (.ref D) ce) (compPost (model X.prog X.w) X.A X.xe use Qf (.ref D) s3.heap.objs.size) s4 := by
    refine compLoop_anyD (fun n s' => ∃ i H', Inv (X.blk s3 H3 scope ce fp) [] (wipe σ (own.map (·.2))) H' s' ∧ tn i s'.heap ∧ (∀ b ∈ fp, H' b = none) ∧ W i n H') ?_ m0 ⟨0, H3, I4, st4, nfp, w0⟩
    rintro n s5 ⟨i, H5, I5, st5, n5, w5⟩
    rcases turn i n H5 w5 with ⟨stop, qq⟩ | ⟨go, N, hN', step⟩
    · refine thnF (T.done (X.blk s3 H3 scope ce fp) rfl rfl rfl hc i [] s5 _ H5 (fun _ _ => False) I5 (stay I5 n5) st5 stop) fun r s6 hh => ?_
      obtain ⟨hr, I6⟩ := hh
      subst hr
      have I7 : Inv X pins σ H5 s6 := I3.call' (ch := fp) I6.os I6.base I6.hok I6.bare fun b hb => ⟨(f3 b hb).1.2.2.2.1, (f3 b hb).1.2.1, (f3 b hb).1.2.2.2.2.1, (f3 b hb).1.2.2.2.2.2⟩
      have nC : H5 s3.heap.objs.size = none := by
        have z : H5 ce.locals = none := I6.free
        rwa [cL] at z
      obtain ⟨m, hn, _⟩ := I6.loc
      have hn : s6.heap.Ns ce.locals m := hn
      rw [cL] at hn
      exact hRR D s3.heap.objs.size s6 m H5 I7 qq hn (I3.fpOk (Nat.le_refl _) nC)
    · refine thnF (T.item (X.blk s3 H3 scope ce fp) rfl rfl rfl hc i [] s5 _ H5 (fun _ _ => False) I5 (stay I5 n5) st5 go) fun r s6 hh => ?_
      obtain ⟨u, hr, h6⟩ := hh
      subst hr
      refine thnF h6 fun _ s7 hh => ?_
      obtain ⟨x, H7, I7, r7, y7, st7, n7⟩ := hh
      have I7' := I7.pinned (stay I7 n7) (T.obj _ _ st7)
      refine thnF (rg.run _ s7 _ H7 x u _ I7' r7 (step x H7 y7)) fun _ s8 hh => ?_
      obtain ⟨σ8, H8, I8, hw8, q8⟩ := hh
      refine thnF (rt.run _ s8 σ8 H8 _ I8 q8) fun b s9 hh => ?_
      obtain ⟨H9, I9, q9⟩ := hh
      have fin : ∀ {s' : Shared} {H' : Hp}, Inv (X.blk s3 H3 scope ce fp) ([] ++ pinsAt fp s7.heap) σ8 H' s' → N H' → ∃ m, m < n ∧ ∃ i H', Inv (X.blk s3 H3 scope ce fp) [] (wipe σ (own.map (·.2))) H' s' ∧ tn i s'.heap ∧ (∀ b ∈ fp, H' b = none) ∧ W i m H' := fun {s' H'} I' nx => by
        obtain ⟨m', hm, w'⟩ := hN' H' nx
        have kept : ∀ b ∈ fp, ∀ o, s7.heap.get? b = some o → s'.heap.get? b = some o ∧ H' b = none := fun b hb o e =>
          let z := I'.pin (b, o) (List.mem_append_right _ (List.mem_append_right _ (mem_pinsAt hb e)))
          ⟨z.1, z.2.1⟩
        have hl : (wipe σ (own.map (·.2))).length = σ8.length := by rw [← hw8, wipe_length]
        refine ⟨m', hm, i + 1, H', (I'.unpinned (pins := [])).weak hl (fun j v e => ?_), T.keep _ _ _ st7 fun b hb o e => (kept b hb o e).1, fun b hb => ?_, w'⟩
        · rw [← hw8] at e
          exact (wipe_some e).1
        · obtain ⟨o, e, _⟩ := T.obj _ _ st7 b hb
          exact (kept b hb o e).2
      cases b with
      | false =>
        simp only [Bool.false_eq_true, if_false] at q9 ⊢
        exact fin I9 q9
      | true =>
        simp only [if_true] at q9 ⊢
        refine thnF (rk.run _ s9 σ8 H9 _ I9 q9) fun z s10 hh => ?_
        obtain ⟨yk, H10, I10, r10, q10⟩ := hh
        refine thnF (re.run _ s10 σ8 H10 _ I10 q10) fun z2 s11 hh => ?_
        obtain ⟨yv, H11, I11, r11, kvs, ks, b, ek, hb11, hD11, hz11, nx⟩ := hh
        subst ek
        exact put_dT (X := X.blk s3 H3 scope ce fp) (show X.A.units + 1 < cLine by omega) I11 hD11 hz11 hb11 r10 r11 fun s12 I12 => fin I12 nx
  exact codeAny_compStart_dict loop (T.self X.A 0 _ _ _ st4 loop)
theorem pe_dcT {kx vx tg iter : Expr} {ifs : List Expr} {scope : Scope} {own : List (Str × Nat)} {pos : Pos} {wi : TI} {g : TG} {tt : TT} {tk tv : TE} (hu : X.A.units + 64 < cLine) (hc : X.calm = true) (hN : X.N.Nodup) (hi : PI X tg iter wi) (ok : BlkOk X.N X.env.scope scope own)
    (hg : ∀ (s : Shared) (H : Hp) (C : Addr) (cl : List (Str × Addr)) (fp : List Addr), PG (X.blk s H scope (compEnvC scope cl C X.env) fp) tg g) (ht : ∀ (s : Shared) (H : Hp) (C : Addr) (cl : List (Str × Addr)) (fp : List Addr), PTs (X.blk s H scope (compEnvC scope cl C X.env) fp) ifs tt)
    (hk : ∀ (s : Shared) (H : Hp) (C : Addr) (cl : List (Str × Addr)) (fp : List Addr), PE (X.blk s H scope (compEnvC scope cl C X.env) fp) kx tk)
    (he : ∀ (s : Shared) (H : Hp) (C : Addr) (cl : List (Str × Addr)) (fp : List Addr), PE (X.blk s H scope (compEnvC scope cl C X.env) fp) vx tv) (hs : ∀ x, foldedSetIterable iter X.env x = pure x := by intro _; rfl) :
    PE X (.DictComp kx vx [⟨tg, iter, ifs, 0⟩] scope pos) (tDcT wi g tt tk tv (own.map (·.2))) := by
  refine ⟨fun pins s σ H Q I h => ?_⟩
  rw [arm_eval_DictComp]
  refine dcT_core hu hc hN I hi ok hg ht hk he hs h fun D C s' m H' I' q hn f => ⟨m, hn, fun h'' sb => ?_⟩
  obtain ⟨f0, f1, f2, f3, f4, f5⟩ := f
  exact ⟨.ref D, H', I'.turned (t' := s'.toks) (fun b o hb e => (sb.2 b hb).trans e) f0 f1 f3 f4 f5, rfl, q⟩
end
section
variable {K : PySem.W.Frag} {S : Dst} {σ : L2.St} {H : Hp} {tl tk tv : TE} {z : V}
/-- over a list; the values are all one -/
theorem ex_dcT {a : Addr} {xs : List V} {j : Nat} {ws : List Nat} (f : Nat → List Key) (h : Ev K S tl σ H (.ref a)) (hx : LA K S H a xs) (hz : xs.length < sizeLine) (hw : ∀ x, wipe ((wipe σ ws).set j (some x)) ws = wipe σ ws)
    (hk : ∀ (i : Nat) (x : V) (H1 : Hp), xs[i]? = some x → Lx S H H1 → EvX K S tk ((wipe σ ws).set j (some x)) H1 fun y H2 => ∃ b, y = .ref b ∧ H2 b = some (.tup ((f i).map kV)) ∧ ¬ Sx S b)
    (hv : ∀ (i : Nat) (x : V) (H1 : Hp), xs[i]? = some x → Lx S H H1 → Ev K S tv ((wipe σ ws).set j (some x)) H1 z) :
    EvX K S (tDcT (iList K tl) (gName j) tYes tk tv ws) σ H (fun v H2 => ∃ p kvs, v = .ref p ∧ H p = none ∧ ¬ Sx S p ∧ H2 p = some (.dT kvs) ∧ kvs.length ≤ xs.length ∧ ∀ q, (valV kvs q).isSome = decide (∃ m, m < xs.length ∧ f m = q)) := fun H0 e Q q => h H0 e _ fun H1 e1 => ⟨a, rfl, ⟨xs, (hx.mono (e.trans e1)).q⟩, fun Dl hD => by
  have w1 : Lx S H H1 := e.trans e1
  have nD : ¬ Sx S Dl := w1.ns hD
  have fD : H Dl = none := w1.fresh hD
  let Pv : Nat → Hp → Prop := fun i H' => Lx S H1 H' ∧ ∃ kvs, H' Dl = some (.dT kvs) ∧ kvs.length ≤ i ∧ ∀ q, (valV kvs q).isSome = decide (∃ m, m < i ∧ f m = q)
  refine ⟨fun i m H' => m = xs.length - i ∧ i ≤ xs.length ∧ Pv i H', ⟨xs.length, rfl, Nat.zero_le _, w1.new hD, [], upd_same, Nat.le_refl _, fun q => by simp [valV]⟩, ?_⟩
  rintro i m H' ⟨rfl, hi, e2, kvs, hkv, lk, all⟩
  have hxs := (hx.mono (w1.trans e2)).q
  by_cases hlt : i < xs.length
  · refine .inr ⟨⟨xs, xs[i], hxs, by simp [hlt]⟩, Pv (i + 1), fun H'' p' => ⟨xs.length - (i + 1), by omega, rfl, hlt, p'⟩, fun x H'' y => ?_⟩
    obtain ⟨eH, y⟩ := y
    subst eH
    have hix := y xs hxs
    refine ⟨hw x, ?_⟩
    show tk _ _ _
    refine hk i x H'' hix (w1.trans e2) H'' e2.refl _ fun w H3 e3 hb => ?_
    obtain ⟨b, rfl, hb, nb⟩ := hb
    refine hv i x H3 hix ((w1.trans e2).trans e3) H3 e3.refl _ fun H4 e4 => ?_
    have e5 := e3.trans e4
    refine ⟨kvs, f i, b, rfl, e4.1 _ _ nb hb, e5.1 _ _ nD hkv, by omega, ⟨(e2.trans e5).put nD (fun u zz => by rw [hD] at zz; cases zz), putK kvs (f i) z, upd_same, Nat.le_trans (length_putK' _ _ _) (by omega), fun q => ?_⟩⟩
    rw [valV_put_some, all]
    rw [Bool.eq_iff_iff]
    simp only [Bool.or_eq_true, decide_eq_true_eq]
    constructor
    · rintro (rfl | ⟨m, hm, rfl⟩)
      · exact ⟨i, Nat.lt_succ_self _, rfl⟩
      · exact ⟨m, Nat.lt_succ_of_lt hm, rfl⟩
    · rintro ⟨m, hm, rfl⟩
      by_cases e : m = i
      · exact .inl (by rw [e])
      · exact .inr ⟨m, by omega, rfl⟩
  · have ei : i = xs.length := by omega
    subst ei
    exact .inl ⟨⟨xs, hxs, Nat.le_refl _⟩, q _ _ (e1.trans e2) ⟨Dl, kvs, rfl, fD, nD, hkv, lk, all⟩⟩⟩
end
end Fw
namespace Fw
open PySem PySem.Spec PyProof.Rows L2
section
variable {K : PySem.W.Frag} {S : Dst} {σ : L2.St} {H : Hp} {te ta tb : TE} {tas : TA} {v : V} {D : Ends} {tz : TS}
/-- what is read without a drawing state may stand beside one -/
theorem ex_lift {P : Hp → V → Hp → Prop} (h : ∀ H1, Lx S H H1 → EvX K none te σ H1 (P H1)) : EvX K S te σ H (fun v H2 => ∃ H1, Lx S H H1 ∧ Lx none H1 H2 ∧ P H1 v H2) := fun H1 e Q q =>
  h H1 e H1 Lx.rfl0 Q fun v H2 e2 p => q v H2 (e.refl.of0 e2) ⟨H1, e, e2, p⟩
theorem ev_lift (h : ∀ H1, Lx S H H1 → Ev K none te σ H1 v) : Ev K S te σ H v := fun H1 e Q q => h H1 e H1 Lx.rfl0 Q fun H2 e2 => q H2 (e.refl.of0 e2)
/-- list(range(n)) -/
theorem ex_listRg1 {n : Int} (h : Ev K S ta σ H (.int n)) (h1 : -1000000 ≤ n) (h2 : n ≤ 1000000) : EvX K S (tLstRg (tRg1 ta)) σ H (NewL S H (rgV 0 n)) := fun H1 e Q q =>
  h H1 e _ fun H2 e2 => ⟨n, rfl, ⟨by omega, by omega, by omega, by omega, by omega⟩, fun p hp => q _ _ (e2.trans ((e.trans e2).new hp)) ⟨p, rfl, (e.trans e2).fresh hp, (e.trans e2).ns hp, upd_same⟩⟩
theorem ex_listRg2 {m n : Int} (h : Ev K S ta σ H (.int m)) (h' : Ev K S tb σ H (.int n)) (h1 : -1000000 ≤ m) (h2 : m ≤ 1000000) (h3 : -1000000 ≤ n) (h4 : n ≤ 1000000) : EvX K S (tLstRg (tRg2 ta tb)) σ H (NewL S H (rgV m n)) := fun H1 e Q q =>
  h H1 e _ fun H2 e2 => h' H2 (e.trans e2) _ fun H3 e3 => ⟨m, n, rfl, rfl, ⟨by omega, by omega, by omega, by omega, by omega⟩, fun p hp => q _ _ ((e2.trans e3).trans (((e.trans e2).trans e3).new hp)) ⟨p, rfl, ((e.trans e2).trans e3).fresh hp, ((e.trans e2).trans e3).ns hp, upd_same⟩⟩
theorem rgV_nat (n : Nat) : rgV 0 (n : Int) = (List.range n).map fun g : Nat => V.int (g : Int) := by
  unfold rgV
  rw [show ((n : Int) - 0).toNat = n by omega]
  apply List.map_congr_left
  intro i _
  congr 1
  omega
/-- x = f(..), f changes the heap -/
theorem s_callSp {i : Nat} {sp : Sp} {dvs : List V} {E : XK} {PA : List V → Hp → Prop} (h : EvAX K S tas σ H PA) (k : ∀ vs H1, Lx S H H1 → PA vs H1 → sp (vs ++ dvs) H1 (fun v H2 => tz D (σ.set i (some v)) H2) E) : St K S (tSeq (tAsg (tCall sp dvs E tas) (gName i)) tz) D σ H := fun H1 e =>
  h H1 e _ fun vs H2 e2 p => k vs H2 (e.trans e2) p
end
end Fw

/-! for x in an own instance whose __iter__ gives the iterator of a list: the iterator stays tracked through the loop -/
namespace FwIt
open PySem
section
variable {prog : Program} {w : World} {A : Around} {E : Value → Shared → Prop} {s : Shared} {it l : Addr} {i : Nat} {items : Array Value}
theorem item {x : Value} {Q : Option Value → Shared → Prop} (ho : s.heap.get? it = some (GNX.itObj l i)) (hl : s.heap.IsList l items) (hx : items[i]? = some x)
    (hQ : ∀ h', h'.get? it = some (GNX.itObj l (i + 1)) → Heap.SameBut it s.heap h' → Q (some x) { s with heap := h' }) : wpAny (model prog w) A (pyNext (.ref it)) Q E s := by
  have hT : s.TypeIs (.ref it) "list_iterator" := ⟨_, ho, rfl⟩
  unfold pyNext
  refine wpAny_bind (wpAny_attempt (wpAny_callSpecial?_slot (name := Str.ofString "__next__") hT slot_listiter_next (wpAny_call_entry slot_listiter_next hT entry_listiter_next ?_ (args_listiter_next _))))
  refine wpAny_mono (GNX.next_item (Q := fun v s' => Q (some v) s') ho hl hx hQ) (fun fin s' hq => ?_) fun _ _ z => z
  obtain ⟨v, e, q⟩ := hq
  exact ⟨v, e, wpAny_pure q⟩
theorem done {Q : Option Value → Shared → Prop} (hh : A.handled = none) (ho : s.heap.get? it = some (GNX.itObj l i)) (hl : s.heap.IsList l items) (hx : items[i]? = none)
    (hQ : ∀ h', h'.get? it = some (GNX.itEnd i) → Heap.ExtBut it s.heap h' → Q none { s with heap := h' }) : wpAny (model prog w) A (pyNext (.ref it)) Q E s := by
  have hT : s.TypeIs (.ref it) "list_iterator" := ⟨_, ho, rfl⟩
  obtain ⟨ol, hol, _, nl, hdl⟩ := hl
  unfold pyNext
  refine wpAny_bind (wpAny_attempt (wpAny_callSpecial?_slot (name := Str.ofString "__next__") hT slot_listiter_next
    (wpAny_call_entry slot_listiter_next hT entry_listiter_next ?_ (args_listiter_next _))))
  show wpAny _ _ (field (.ref it) 0 >>= _) _ _ s
  refine wpAny_bind (wpAny_field ho rfl (x := .ref l) rfl ?_)
  show wpAny _ _ (if (Value.ref l == Value.none) = true then _ else _) _ _ s
  rw [if_neg (show ¬ ((Value.ref l == Value.none) = true) from Bool.false_ne_true)]
  show wpAny _ _ (field (.ref it) 1 >>= _) _ _ s
  refine wpAny_bind (wpAny_field ho rfl (x := .int i 0) rfl ?_)
  show wpAny _ _ (seqItems? (.ref l) >>= _) _ _ s
  refine wpAny_bind (wpAny_seqItems hol hdl ?_)
  simp only [Int.toNat_natCast, hx]
  refine wpAny_bind (wpAny_rule (wpAny_bind (wpAny_setField ho rfl (by simp) ?_)))
  show wpAny _ _ (newExc (.type "StopIteration") [] >>= _) _ _ _
  refine wpAny_bind ?_
  simp only [newExc, newTuple]
  refine wpAny_bind (wpAny_newObj_type ?_ (by size_fits))
  refine wpAny_bind (m := firstArgMember _ _) (wpAny_of_eq (a := Value.none) (by first | rfl | (simp only [firstArgMember]; rfl)) ?_)
  refine wpAny_newObj_type ?_ (by size_fits)
  simp only [raiseNew]
  refine wpAny_bind (wpAny_handled ?_)
  rw [show A.in1.handled = none from hh]
  refine wpAny_bind (wpAny_pure (wpAny_throw ?_))
  refine wpAny_bind (wpAny_isInstance (T := "StopIteration") (b := true) ⟨_, Heap.get?_push_size _ rfl, rfl⟩ isSubtype_stop ?_)
  refine wpAny_pure (hQ _ (Heap.get?_push_of_some _ (Heap.get?_push_of_some _ ?_)) (((Heap.SameBut.update ..).extBut.push _).push _))
  rw [Heap.get?_update_self _ ho (by rfl)]
  exact congrArg some (GNX.end_obj l i)
end
end FwIt
namespace Fw
open PySem PySem.Spec PyProof.Rows L2
/-- the loop over what __iter__ of an instance of C gave: an iterator of a list that the body leaves as it is -/
def tForO (K : PySem.W.Frag) (C : Addr) (sp : Sp) (E : XK) (te : TE) (g : TG) (tb : TS) : TS := fun D σ H => te σ H fun x H1 => ∃ a dx fs, x = .ref a ∧ H1 a = some (.ins C dx fs) ∧
  sp [.ref a] H1 (fun v H2 => ∃ (it l : Addr) (xs : List V) (Pv : Nat → L2.St → Hp → Prop), v = .ref it ∧ H2 it = some (ItO l it 0) ∧ Pv 0 σ H2 ∧ (∀ i σ' H', i ≤ xs.length → Pv i σ' H' → SqL K H' l xs ∧ H' it = some (ItO l it i)) ∧
    (∀ i x σ' H', xs[i]? = some x → Pv i σ' H' → g x σ' (upd H' it (ItO l it (i + 1))) fun σ2 H3 => tb { D with nx := Pv (i + 1), ct := Pv (i + 1), bk := D.nx } σ2 H3) ∧ ∀ σ' H', Pv xs.length σ' H' → D.nx σ' (upd H' it (ItE it xs.length))) E
section
variable {X : Cx} {CX : CXT} {k : Nat} {C f : Addr} {ps : List Str} {sp : Sp} {E : XK}
theorem ps_forO {tg iter : Expr} {body : List Stmt} {te : TE} {g : TG} {tb : TS} {pos : Pos} (K : PySem.W.Frag) (hK : X.K = K) (hp : PassesOwn (model X.prog X.w) X.A X.env X.xe) (hc : X.calm = true) (hm : Meth K C "__iter__" f)
    (F : Ok X.prog X.w K X.mg X.base CX k f ps sp) (hr : Room k X.A) (hx : Passes CX X E) (he : PE X iter te) (hg : PG X tg g) (hb : PSs X body tb)
    (hs : ∀ x, foldedSetIterable iter X.env x = pure x := by intro _; rfl) : PS X (.For tg iter body [] pos) (tForO K C sp E te g tb) := by
  subst hK
  refine ⟨fun pins s σ H D I h => ?_⟩
  refine wpAny_For (thn (he.run pins s σ H _ I h) fun v s1 ⟨x, H1, I1, r1, a, dx, fs, ex, ha, q⟩ => ?_) hs
  subst ex
  cases r1
  obtain ⟨_, _, J⟩ := inst_at I1 ⟨_, _, ha⟩
  obtain ⟨m, hF⟩ := I1.fr
  refine PySem.W.owit_iter hF I1.ok.mod.kin J hm.at_ hm.fn (wpAny_mono (wpAny_call (run_fnR (us := [.ref a]) (vs := [.ref a]) F.r hr hx I1 (.cons rfl .nil) q)) (fun u s2 z => ?_) fun _ _ x => x)
  obtain ⟨z', H2, I2, rz, it, l, xs, Pv, ez, hi, p0, hl, hstep, hd⟩ := z
  subst ez
  cases rz
  unfold PySem.W.OwitIt
  refine wpAny_specialOf (T := "list_iterator") ⟨_, itO_get I2 hi, rfl⟩ slot_listiter_next.lookup ?_
  show codeAny _ _ _ _ _
  refine codeAny_forLoop_any (fun n s' => ∃ i σ' H', n = xs.length - i ∧ i ≤ xs.length ∧ Inv X pins σ' H' s' ∧ Pv i σ' H') ?_ xs.length ⟨0, σ, H2, rfl, Nat.zero_le _, I2, p0⟩
  rintro n s3 ⟨i, σ3, H3, rfl, hle, I3, w3⟩
  obtain ⟨hq, hit⟩ := hl i σ3 H3 hle w3
  have mu : Mut (H3 it) := by rw [hit]; exact True.intro
  obtain ⟨its, rv, pl, hz⟩ := I3.list hq
  by_cases hlt : i < xs.length
  · have hxi : xs[i]? = some xs[i] := List.getElem?_eq_getElem hlt
    obtain ⟨u, hu, ru⟩ := rv.get hxi
    refine wpAny_passesOwn hp (FwIt.item (itO_get I3 hit) pl.isList (x := u) (by rw [List.getElem?_toArray]; exact hu) fun h' e' sb => ?_)
    have I4 : Inv X pins σ3 (upd H3 it (ItO l it (i + 1))) { s3 with heap := h' } := I3.write (x := it) (e := it) (t' := s3.toks) mu (.inl rfl) (fun b o nb z => (sb.2 b nb).trans z) ⟨_, e'⟩ (itO_ok e')
    refine wpAny_passesOwn hp (go_of (n := "list_iterator") (s := { s3 with heap := h' }) e' rfl rfl (by decide) ?_)
    refine wpAny_passesOwn hp (thn (hg.run _ _ σ3 _ xs[i] u _ I4 ru (hstep i xs[i] σ3 H3 hxi w3)) fun _ s6 ⟨σ6, H6, I6, q6⟩ => ?_)
    refine wpAny_passesOwn hp (thn (hb.run _ s6 σ6 H6 _ I6 q6) fun fl s7 q7 => ?_)
    cases fl with
    | next => obtain ⟨σ7, H7, I7, n7⟩ := q7; exact ⟨_, by omega, i + 1, σ7, H7, rfl, hlt, I7, n7⟩
    | cont => obtain ⟨σ7, H7, I7, n7⟩ := q7; exact ⟨_, by omega, i + 1, σ7, H7, rfl, hlt, I7, n7⟩
    | brk => exact q7
    | ret v => exact q7
  · have e : i = xs.length := by omega
    subst e
    refine wpAny_passesOwn hp (FwIt.done (I3.ok.hd hc) (itO_get I3 hit) pl.isList (by rw [List.getElem?_toArray]; exact rv.none_of (by simp)) fun h' e' eb => ?_)
    have I4 : Inv X pins σ3 (upd H3 it (ItE it xs.length)) { s3 with heap := h' } := I3.write (x := it) (e := it) (t' := s3.toks) mu (.inl rfl) (fun b o nb z => eb b o nb z) ⟨_, e'⟩ (itE_ok e')
    exact wpAny_execs_nil ⟨σ3, _, I4, hd σ3 H3 w3⟩
end
/-- heaps that differ at the iterator alone -/
structure Trn (it : Addr) (o : HO) (H1 H2 : Hp) : Prop where
  at_ : H1 it = some o
  tr : ∀ b o', b ≠ it → H1 b = some o' → H2 b = some o'
theorem Trn.tup {it p l : Addr} {i : Nat} {H1 H2 : Hp} {xs : List V} (t : Trn it (ItO l it i) H1 H2) (h : H1 p = some (.tup xs)) : H2 p = some (.tup xs) :=
  t.tr p _ (fun z => by have := t.at_; rw [← z, h] at this; cases this) h
/-- the heap goes on, and the iterator stands at i -/
structure OI (S : Dst) (H : Hp) (it l : Addr) (i : Nat) (H' : Hp) : Prop where
  e : Lx S H H'
  at_ : H' it = some (ItO l it i)
  new : H it = none
  ns : ¬ Sx S it
theorem OI.go {S : Dst} {H H2 H3 : Hp} {it l : Addr} {i : Nat} (h : OI S H it l i H2) (e : Lx S H2 H3) : OI S H it l i H3 := ⟨h.e.trans e, e.1 _ _ h.ns h.at_, h.new, h.ns⟩
section
variable {K : PySem.W.Frag} {S : Dst} {σ : L2.St} {H : Hp} {C a l : Addr} {fs : List (Str × V)} {xs : List V} {sp : Sp} {E : XK} {te : TE} {tu tz : TS} {D : Ends} {j : Nat}
theorem s_forO1 (h : Ev K S te σ H (.ref a)) (ia : IA S H a C fs) (hx : LA K S H l xs) (hsp : ∀ H1, Lx S H H1 → SpX K S sp [.ref a] H1 E (fun v H2 => ∃ it, v = .ref it ∧ H1 it = none ∧ H2 it = some (ItO l it 0))) (Pv : Nat → L2.St → Hp → Prop) (h0 : ∀ H1, Lx S H H1 → Pv 0 σ H1)
    (hs : ∀ i x σ' H1 H2 it, xs[i]? = some x → Pv i σ' H1 → OI S H it l (i + 1) H2 → Trn it (ItO l it i) H1 H2 → St K S tu { D with nx := fun σ2 H3 => OI S H it l (i + 1) H3 ∧ Pv (i + 1) σ2 H3, ct := fun σ2 H3 => OI S H it l (i + 1) H3 ∧ Pv (i + 1) σ2 H3, bk := D.nx } (σ'.set j (some x)) H2)
    (hd : ∀ σ' H1 H2 it, Pv xs.length σ' H1 → Lx S H H2 → Trn it (ItO l it xs.length) H1 H2 → D.nx σ' H2) : St K S (tForO K C sp E te (gName j) tu) D σ H := fun G1 g1 =>
  h G1 g1 _ fun G2 g2 => by
    have g := g1.trans g2
    obtain ⟨⟨dx, ha⟩, _⟩ := ia.mono g
    refine ⟨a, dx, fs, rfl, ha, hsp G2 g G2 g2.refl _ fun v H2 e2 ⟨it, ev, hn, hi⟩ => ?_⟩
    have hnH : H it = none := g.fresh hn
    have ns : ¬ Sx S it := g.ns hn
    have gH2 := g.trans e2
    have put : ∀ {H' : Hp} (o : HO), Lx S H H' → Lx S H (upd H' it o) := fun o e => e.put ns (fun u z => nomatch (hnH.symm.trans z))
    refine ⟨it, l, xs, fun i σ' H' => OI S H it l i H' ∧ Pv i σ' H', ev, hi, ⟨⟨gH2, hi, hnH, ns⟩, h0 H2 gH2⟩, fun i σ' H' _ z => ⟨(hx.mono z.1.e).q, z.1.at_⟩, ?_, ?_⟩
    · rintro i x σ' H' hxi ⟨o, pv⟩
      have e' := put (ItO l it (i + 1)) o.e
      exact hs i x σ' H' _ it hxi pv ⟨e', upd_same, hnH, ns⟩ ⟨o.at_, fun b o nb hb => by rw [upd_ne nb]; exact hb⟩ _ e'.refl
    · rintro σ' H' ⟨o, pv⟩
      exact hd σ' H' _ it pv (put _ o.e) ⟨o.at_, fun b o nb hb => by rw [upd_ne nb]; exact hb⟩
theorem s_forO (h : Ev K S te σ H (.ref a)) (ia : IA S H a C fs) (hx : LA K S H l xs) (hsp : ∀ H1, Lx S H H1 → SpX K S sp [.ref a] H1 E (fun v H2 => ∃ it, v = .ref it ∧ H1 it = none ∧ H2 it = some (ItO l it 0))) (Pv : Nat → L2.St → Hp → Prop) (h0 : ∀ H1, Lx S H H1 → Pv 0 σ H1)
    (hs : ∀ i x σ' H1 H2 it, xs[i]? = some x → Pv i σ' H1 → OI S H it l (i + 1) H2 → Trn it (ItO l it i) H1 H2 → St K S tu { D with nx := fun σ2 H3 => OI S H it l (i + 1) H3 ∧ Pv (i + 1) σ2 H3, ct := fun σ2 H3 => OI S H it l (i + 1) H3 ∧ Pv (i + 1) σ2 H3, bk := tz D } (σ'.set j (some x)) H2)
    (hd : ∀ σ' H1 H2 it, Pv xs.length σ' H1 → Lx S H H2 → Trn it (ItO l it xs.length) H1 H2 → St K S tz D σ' H2) : St K S (tSeq (tForO K C sp E te (gName j) tu) tz) D σ H :=
  s_forO1 (D := { D with nx := tz D }) h ia hx hsp Pv h0 hs fun σ' H1 H2 it pv e t => hd σ' H1 H2 it pv e t H2 e.refl
end
end Fw

/-! defs with keyword-only parameters -/
namespace Fw
open PySem PySem.Spec PyProof.Rows L2
abbrev FnIsK (K : PySem.W.Frag) (x qual : Str) (st : Stmt) (kws : List (Str × V)) (f : Addr) : Prop := ∃ fd, FunD K x qual (defArgs st) (defBody st) (defScope st) [] kws f fd
def OkK (P : Program) (w : World) (K : PySem.W.Frag) (mg : Str → Option Value) (base : Heap) (CX : CXT) (k : Nat) (x qual : Str) (st : Stmt) (kws : List (Str × V)) (f : Addr) (ps : List Str) (sp : Sp) : Prop :=
  ∃ fd : FuncData, FunD K x qual (defArgs st) (defBody st) (defScope st) [] kws f fd ∧ FnOk P w K mg base CX k f fd ps sp
section
variable {P : Program} {w : World} {K : PySem.W.Frag} {mg : Str → Option Value} {base : Heap} {x qual : Str} {st : Stmt} {kws : List (Str × V)} {f : Addr}
theorem okDK {N ps : List Str} {k : Nat} {sp : Sp} (F : FnIsK K x qual st kws f) (S : FnScope N ps (defScope st)) (len : ∀ vs H Q E, sp vs H Q E → vs.length = ps.length)
    (hbody : ∀ (cdv : Value) (A : Around) (outer : List Env) (s : Shared) (H : Hp) (vs : List V) (Q : VK) (E : XK), Room k (A.deeper (envOfC qual (defScope st) s.heap.objs.size f cdv)) → sp vs H Q E →
      ∃ t, PSs (cxOf CX0 P w K mg base N qual (defScope st) f cdv A outer s H E).nox (defBody st) t ∧ t { nx := fun _ H' => Q .non H', rt := Q } (start N vs) H) : OkK P w K mg base CX0 (k + 1) x qual st kws f ps sp := by
  obtain ⟨fd, F⟩ := F
  refine ⟨fd, F, F.ok S len fun cdv A outer s H vs Q E hr hsp => ?_⟩
  obtain ⟨t, h, q⟩ := hbody cdv A outer s H vs Q E hr hsp
  exact ⟨t, h.nox, q⟩
end
/-- how a call with n places and keywords ks binds: ms are the ones that lack -/
abbrev BindK (x qual : Str) (st : Stmt) (ps : List Str) (n : Nat) (ks : List Str) (ms : List Str) (g : List Value → List Value → List Value → List Value) : Prop :=
  ∀ (D : Addr) (doc pm : Value) (an : Option Addr) (cdv ct : Value) (us mv ws : List Value), us.length = n → mv.length = ms.length → ws.length = ks.length →
    KwChain D (ms.zip mv) (bindArgs (PySem.W.fnOf x qual (defArgs st) (defBody st) (defScope st) .none (.ref D) doc pm an cdv ct) ⟨us, ks.zip ws⟩) (ps.zip (g us mv ws))
section
variable {X : Cx} {CX : CXT} {k n : Nat} {x qual y : Str} {st : Stmt} {kwd : List (Str × V)} {f C : Addr} {ps ks : List Str} {sp : Sp} {E : XK} {p pos : Pos} {e : Expr} {es : List Expr} {kws : List Keyword} {t tk : TA}
/-- f(e, ..): all keyword-only parameters stand at their defaults -/
theorem pe_callK0 (F : OkK X.prog X.w X.K X.mg X.base CX k x qual st kwd f ps sp) (hk : kwd ≠ []) (hb : BindK x qual st ps n [] (kwd.map (·.1)) fun us mv _ => us ++ mv) (hn : n + kwd.length = ps.length) (hr : Room k X.A) (hg : Gl X y) (hm : X.mg y = some (.ref f)) (hx : Passes CX X E) (ha : PA X (e :: es) t)
    (hdb : (y == ("__debug__" : Str)) = false := by decide) (he : starEach (e :: es) X.env = (false, eval e X.env) :: starEach es X.env := by rfl) (hpl : (backTo pos (starEach es X.env)).any (·.1) = false := by rfl) :
    PE X (.Call (.Name y p) (e :: es) [] pos) (tCall sp (kwd.map (·.2)) E t) := by
  obtain ⟨fd, F, G⟩ := F
  obtain ⟨ds, rd, bn⟩ := F.binds0 n hk hn fun D doc pm an cdv ct us mv h1 h2 => hb D doc pm an cdv ct us mv [] h1 (by rw [h2, List.length_map]) rfl
  exact pe_call G hr hg hm F.kp bn rd hx ha hdb he hpl
/-- f(e, .., k = v, ..): all keyword-only parameters are named -/
theorem pe_callK (F : OkK X.prog X.w X.K X.mg X.base CX k x qual st kwd f ps sp) (hk : kwd ≠ []) (hb : BindK x qual st ps n ks [] fun us _ ws => us ++ ws) (hr : Room k X.A) (hg : Gl X y) (hm : X.mg y = some (.ref f)) (hx : Passes CX X E) (ha : PA X (e :: es) t) (hkw : PK X kws tk)
    (hall : (backToKw pos (keywordEach kws X.env)).all (·.1.isSome) = true := by rfl) (hks : (backToKw pos (keywordEach kws X.env)).filterMap (·.1) = ks := by rfl)
    (hdb : (y == ("__debug__" : Str)) = false := by decide) (he : starEach (e :: es) X.env = (false, eval e X.env) :: starEach es X.env := by rfl)
    (hpl : ((backTo pos (starEach (e :: es) X.env)).any (·.1) || (backToKw pos (keywordEach kws X.env)).any (·.1.isNone)) = false := by rfl) :
    PE X (.Call (.Name y p) (e :: es) kws pos) (tCallN n ks.length sp (fun vs zs => vs ++ zs) E t tk) := by
  obtain ⟨fd, F, G⟩ := F
  obtain ⟨mv, bn⟩ := F.kbinds0 n ks [] (fun us _ ws => us ++ ws) hk (fun _ h => nomatch h) (fun a _ c => a.append c) fun D doc pm an cdv ct us mv ws h1 h2 h3 => hb D doc pm an cdv ct us mv ws h1 h2 h3
  exact pe_callN G hr hg hm F.kp bn hx ha hkw hall hks hdb he hpl
end
section
variable {K : PySem.W.Frag} {S : Dst} {σ : L2.St} {H : Hp} {sp : Sp} {E : XK} {tas tks : TA} {vs zs : List V} {n m : Nat} {P : V → Hp → Prop} {dvs : List V}
theorem ex_callN (h : EvA K S tas σ H vs) (hk : EvA K S tks σ H zs) (l1 : vs.length = n) (l2 : zs.length = m) (k : SpX K S sp (vs ++ zs) H E P) : EvX K S (tCallN n m sp (fun vs zs => vs ++ zs) E tas tks) σ H P := fun H1 e Q q =>
  h H1 e _ fun H2 e2 => hk H2 (e.trans e2) _ fun H3 e3 => ⟨l1, l2, k H3 ((e.trans e2).trans e3) Q fun z H4 e4 p => q z H4 ((e2.trans e3).trans e4) p⟩
theorem ex_callD (h : EvA K S tas σ H vs) (k : SpX K S sp (vs ++ dvs) H E P) : EvX K S (tCall sp dvs E tas) σ H P := fun H1 e Q q =>
  h H1 e _ fun H2 e2 => k H2 (e.trans e2) Q fun z H3 e3 p => q z H3 (e2.trans e3) p
end
end Fw
namespace Fw
open PySem PySem.Spec PyProof.Rows L2
section
variable {X : Cx} {K : PySem.W.Frag} {S : Dst} {σ : L2.St} {H : Hp}
theorem iterK (K : PySem.W.Frag) (h : X.K = K) : CallR X (.builtin "iter") (rIter K) := by subst h; exact call_iterL
theorem rc_iter {p : Addr} {ys : List V} (h : LA K S H p ys) : RCX K S (rIter K) [.ref p] H (fun v H2 => ∃ it, v = .ref it ∧ H it = none ∧ H2 it = some (ItO p it 0)) := fun H1 e _ q => ⟨p, ys, rfl, (h.mono e).q, fun it hl => q _ _ (e.new hl) ⟨it, rfl, e.fresh hl, upd_same⟩⟩
/-- d[k], a key that is a tuple -/
theorem ev_dgetT {ta tb : TE} {d : Addr} {kvs : List (List Key × V)} {ks : List Key} {v : V} (hd : Ev K S ta σ H (.ref d)) (hy : EvX K S tb σ H fun x H2 => ∃ b, x = .ref b ∧ H2 b = some (.tup (ks.map kV)) ∧ ¬ Sx S b) (e : H d = some (.dT kvs)) (nd : ¬ Sx S d) (hv : valV kvs ks = some v) : Ev K S (tDGet ta tb) σ H v := fun H1 e1 Q q =>
  hd H1 e1 _ fun H2 e2 => hy H2 (e1.trans e2) _ fun x H3 e3 ⟨b, hx, hb, _⟩ => ⟨d, v, rfl, by
    subst hx
    rw [← hv]
    exact DGet.t (((e1.trans e2).trans e3).1 _ _ nd e) hb, q H3 (e2.trans e3)⟩
end
end Fw
namespace Fw
open PySem PySem.Spec PyProof.Rows L2
section
variable {K : PySem.W.Frag} {S : Dst} {σ : L2.St} {H : Hp} {ta tb te : TE} {D : Ends} {tz : TS}
theorem s_dputTX1 {d : Addr} {kvs : List (List Key × V)} {ks : List Key} {P : V → Hp → Prop} (hv : EvX K S te σ H P) (hd : Ev K S tb σ H (.ref d)) (hy : EvX K S ta σ H fun x H2 => ∃ b, x = .ref b ∧ H2 b = some (.tup (ks.map kV)) ∧ ¬ Sx S b) (e : H d = some (.dT kvs)) (nd : ¬ Sx S d) (hl : kvs.length < sizeLine)
    (k : ∀ v H1 H2, Lx S H H1 → P v H1 → Lx S H1 H2 → ∀ H3, Lx S (upd H2 d (.dT (putK kvs ks v))) H3 → D.nx σ H3) : St K S (sDPut tb ta te) D σ H := fun H1 e1 => hv H1 e1 _ fun v H2 e2 p => hd H2 (e1.trans e2) _ fun H3 e3 => hy H3 ((e1.trans e2).trans e3) _ fun x H4 e4 ⟨b, hx, hb, nb⟩ => by
  subst hx
  have e14 := ((e1.trans e2).trans e3).trans e4
  exact ⟨d, _, rfl, .inr ⟨kvs, ks, b, e14.1 _ _ nd e, rfl, hb, hl, rfl⟩, k v H2 H4 (e1.trans e2) p (e3.trans e4) _ (e14.refl.upd nd)⟩
end
end Fw

/-! an operator of two instances of one own class; try with more clauses behind the one that takes -/
namespace PySem.W
open PySem PySem.Spec PySem.Calls PyProof.Rows
section
variable {prog : Program} {w : World} {A : Around} {E : Value → Shared → Prop} {s : Shared} {K : Frag} {x y C L f : Addr} {h₀ : Heap} {m : Str → Option Value} {ox oy : Obj} {od oe : Option Obj}
theorem fw_binSame {op : Operator} {Q : Value → Shared → Prop} (F : Fr h₀ L s.heap m) (X₀ : K.In h₀) (I : InstAt s.heap x ox C od) (J : InstAt s.heap y oy C oe) (hc : selfFirst K C = true)
    (hs : findIn K (.ref C) (PySem.dunder op.info.2) = some (some (.ref f))) (hf : isFn K (.ref f) = true) (h : wpAny (model prog w) A (call (.ref f) [.ref x, .ref y]) (CmpBack Q) E s) : wpAny (model prog w) A (binaryOp op (.ref x) (.ref y)) Q E s := by
  have X := X₀.keeps F.keep
  obtain ⟨cd, rest, hcd, hm⟩ := ksp_first hc
  rcases hi : op.info with ⟨sym, nm'⟩
  rw [hi] at hs
  dsimp only at hs
  have one := ksp_try X I hs hf h
  obtain ⟨hh, g, d, tt, os⟩ := s
  have L1 : Looks (model prog w) hh (typeOf (.ref x)) (.ref C) := I.type
  have L2 : Looks (model prog w) hh (typeOf (.ref y)) (.ref C) := J.type
  have L3 : Looks (model prog w) hh (fillsNumberSlot (.ref C) nm') true := fills_K X hcd hm hs
  have heq : (Value.ref C == Value.ref C) = true := beq_self_eq_true _
  simp only [binaryOp, hi]
  refine wpAny_holding (wpAny_bind ?_)
  unfold binaryOp1
  refine wpAny_bind (L1.at (wpAny_bind (L2.at (wpAny_bind (L3.at ?_)))))
  simp only [heq, if_true]
  ksp_lk
  refine wpAny_mono one (fun r s' hr' => ?_) fun _ _ e => e
  obtain ⟨v, rfl, hq⟩ := hr'
  ksp_lk
  exact hq
end
end PySem.W
namespace Fw
open PySem PySem.Spec PyProof.Rows L2
def rBinS (C : Addr) (sp : Sp) (E : XK) : R2 := fun x y H Q => ∃ a b, x = .ref a ∧ y = .ref b ∧ (∃ dx fs, H a = some (.ins C dx fs)) ∧ (∃ dx fs, H b = some (.ins C dx fs)) ∧ sp [.ref a, .ref b] H Q E
def tBinS (C : Addr) (sp : Sp) (E : L2.St → XK) (ta tb : TE) : TE := fun σ H Q => ta σ H fun x H1 => tb σ H1 fun y H2 => ∃ a b, x = .ref a ∧ y = .ref b ∧ (∃ dx fs, H2 a = some (.ins C dx fs)) ∧ (∃ dx fs, H2 b = some (.ins C dx fs)) ∧ sp [.ref a, .ref b] H2 Q (E σ)
section
variable {X : Cx} {CX : CXT} {k : Nat} {C g : Addr} {ps : List Str} {sp : Sp} {op : Operator} {a b : Expr} {ta tb : TE} {pos : Pos}
theorem op_binS {E : XK} (K : PySem.W.Frag) (hK : X.K = K) (hc : PySem.W.selfFirst K C = true) (hm : Meth K C (PySem.dunder op.info.2) g) (F : Ok X.prog X.w K X.mg X.base CX k g ps sp) (hr : Room k X.A) (hx : Passes CX X E) : OpR X (binaryOp op) (rBinS C sp E) := by
  subst hK
  intro pins s σ H x y v u Q I rx ry h
  obtain ⟨p, q, rfl, rfl, hp, hq, z⟩ := h
  cases (show v = Value.ref p from rx)
  cases (show u = Value.ref q from ry)
  obtain ⟨_, _, J⟩ := inst_at I hp
  obtain ⟨_, _, J2⟩ := inst_at I hq
  obtain ⟨m, hF⟩ := I.fr
  refine PySem.W.fw_binSame hF I.ok.mod.kin J J2 hc hm.at_ hm.fn (wpAny_mono (wpAny_call (run_fnR (us := [.ref p, .ref q]) (vs := [.ref p, .ref q]) F.r hr hx I (.cons rfl (.cons rfl .nil)) z)) (fun w s' z => ?_) fun _ _ x => x)
  obtain ⟨z', H', I', rz, qz⟩ := z
  exact SlX.cmpback rz ⟨z', H', I', rz, qz⟩
theorem pe_binS {E : L2.St → XK} (K : PySem.W.Frag) (hK : X.K = K) (hc : PySem.W.selfFirst K C = true) (hm : Meth K C (PySem.dunder op.info.2) g) (F : Ok X.prog X.w K X.mg X.base CX k g ps sp) (hr : Room k X.A) (hx : ∀ σ, PassesAt CX X σ (E σ)) (ha : PE X a ta) (hb : PE X b tb) : PE X (.BinOp a op b pos) (tBinS C sp E ta tb) := by
  subst hK
  obtain ⟨fd, F, hbd, hk, _⟩ := F
  refine ⟨fun pins s σ H Q I h => ?_⟩
  refine wpAny_BinOp (binT ha hb I h fun v u s2 x y H2 I2 rx ry z => ?_)
  obtain ⟨p, q, rfl, rfl, hp, hq, z⟩ := z
  cases (show v = Value.ref p from rx)
  cases (show u = Value.ref q from ry)
  obtain ⟨_, _, J⟩ := inst_at I2 hp
  obtain ⟨_, _, J2⟩ := inst_at I2 hq
  obtain ⟨m, hF⟩ := I2.fr
  refine PySem.W.fw_binSame hF I2.ok.mod.kin J J2 hc hm.at_ hm.fn (wpAny_mono (run_fnS (us := [.ref p, .ref q]) (vs := [.ref p, .ref q]) F hr hbd (hx σ) I2 (.cons rfl (.cons rfl .nil)) z) (fun w s' z => ?_) fun _ _ x => x)
  obtain ⟨z', H', I', rz, qz⟩ := z
  exact SlX.cmpback rz ⟨z', H', I', rz, qz⟩
end
section
variable {K : PySem.W.Frag} {S : Dst} {σ : L2.St} {H : Hp} {ta tb : TE} {C a b : Addr} {fs gs : List (Str × V)} {sp : Sp} {P : V → Hp → Prop}
theorem rvx_binS {E : XK} (i : IA S H a C fs) (j : IA S H b C gs) (k : SpX K S sp [.ref a, .ref b] H E P) : RVX K S (rBinS C sp E) (.ref a) (.ref b) H P := fun H1 e Q q => by
  obtain ⟨⟨dx, q1⟩, _⟩ := i.mono e
  obtain ⟨⟨dy, q2⟩, _⟩ := j.mono e
  exact ⟨a, b, rfl, rfl, ⟨_, _, q1⟩, ⟨_, _, q2⟩, k H1 e Q q⟩
end
end Fw
namespace L2N
open PySem PySem.Spec PyProof.Rows L2
section
variable {X : Cx} {x n : Str} {c : Value} {i : Nat} {body suite : List Stmt} {b₀ : Stmt} {hds : List ExceptHandler} {np pos pos' : Pos} {tb : WX → TS} {ts : Addr → Value → Option Addr → TS}
/-- the first clause takes whatever comes: the clauses behind it stay unasked -/
theorem fw_try_first (hs : X.stack = X.env :: X.outer) (hf : X.env.frame = some X.env.locals) (hN : X.N.Nodup) (hi : X.N[i]? = some n) (hln : X.env.kindOf n = some .local) (hc : Names X x c)
    (hb : ∀ (W : WX) (pn : List (Addr × Obj)) (xe : Value → Shared → Prop), Takes (X.tr pn xe) W → PassesOwn (model X.prog X.w) X.A X.env xe → PSs (X.tr pn xe) body (tb W))
    (hsu : ∀ (a : Addr) (oe : Obj) (cls : Value) (d : Option Addr) (pn : List (Addr × Obj)), Zn cls d oe → (∃ vs, oe.data = .fields vs) → PSs (X.suite a ((a, oe) :: pn)) (b₀ :: suite) (ts a cls d)) :
    PS X (.Try body (.ExceptHandler (some (.Name x np)) (some n) (b₀ :: suite) pos' :: hds) [] [] pos) (fun D σ H => tb (wAs X.K c i ts (fun _ _ _ _ => False) D) D σ H) := by
  refine ⟨fun pins s σ H D I h => ?_⟩
  have ok := I.ok
  have hfr : X.A.frames = some (X.env :: X.outer) := by rw [ok.frames, hs]
  refine wpAny_Try_except ?_
  refine wpAny_mono ((hb (wAs X.K c i ts (fun _ _ _ _ => False) D) (X.pn ++ pins) (fun e s₁ => wpAny (model X.prog X.w) X.A (noteFrame e X.env) (fun _ s₂ => wpAny (model X.prog X.w) X.A (setFlight e none) (fun _ s₃ =>
    wpAny (model X.prog X.w) X.A (handleBy e X.env (.ExceptHandler (some (.Name x np)) (some n) (b₀ :: suite) pos' :: hds)) (SP X pins D) X.xe s₃) X.xe s₂) X.xe s₁) (fun u s' xx => ?_) PassesOwn.looking).run [] s σ H D (I.toTry _) h) (fun f s1 hsp => ?_) (fun e s1 he => he)
  · obtain ⟨a, B, sI, pins', σ', H', cls, d, rfl, J', nb, up, sky, na, os, ag, b, hb1, hyes, hno⟩ := xx
    obtain rfl : b = true := by
      cases b with
      | true => rfl
      | false => exact (hno rfl).elim
    have J : Inv X pins σ' H' sI := J'.ofTry ok
    have sky' : Sky B (X.env :: X.outer) a (Zn cls d) X.env.locals s'.heap := by rw [← hs]; exact sky
    show wpAny (model X.prog X.w) X.A (noteFrame (.ref a) X.env) _ _ _
    refine Sky.land Zn.steady hfr hf sky' fun h3 fl3 up3 => ?_
    have J3 : Inv X pins σ' H' { s' with heap := h3 } := J.landed nb fl3.1 (up.trans up3) os ag
    obtain ⟨oe3, vs3, he3, hz3, hd3⟩ := fl3.there
    have nfr : a ∉ frs (X.env :: X.outer) := fun hm => by
      obtain ⟨_, o', e', hnf⟩ := (fl3.2.2.1).mem hm
      rw [he3] at e'; cases e'
      exact hnf _ hd3
    have nL : a ≠ X.env.locals := fun z => nfr (List.mem_filterMap.mpr ⟨X.env, List.mem_cons_self, by rw [hf, z]⟩)
    have nF : a ∉ X.fs := fun hm => by
      obtain ⟨e, he, q⟩ := List.mem_filterMap.mp hm
      exact nfr (List.mem_filterMap.mpr ⟨e, List.mem_cons_of_mem _ he, q⟩)
    have S3 := J3.suite he3 hd3 na nL nF
    refine wpAny_handleBy_cons (codeAny_handlers_test ?_) (by intro q; cases q)
    have LT : PySem.W.Looks (model X.prog X.w) h3 (typeOf (.ref a)) cls := fun A Q E s k q => wpAny_typeOf_ref (k _ _ he3) (by rw [hz3.1]; exact q)
    have LM := PySem.W.exm_one (M := model X.prog X.w) (J3.kIn) LT hb1
    have test : ∀ {Q : Value → Shared → Prop} {E : Value → Shared → Prop}, Q c { s' with heap := h3 } → wpAny (model X.prog X.w) (X.A.mark (some (.ref a))) (eval (.Name x np) X.env) Q E { s' with heap := h3 } := fun {Q E} q => by
      obtain ⟨hg, hdbg, hm | ⟨hm, hv, hnn⟩⟩ := hc
      · exact ld_glob (X := X.suite a ((a, oe3) :: (X.pn ++ pins))) S3 hg hm q hdbg
      · exact ld_blt (X := X.suite a ((a, oe3) :: (X.pn ++ pins))) S3 hg hm hv q hnn hdbg
    refine test (LM.here ?_)
    refine codeAny_handlers_suite_as ?_
    refine HandSPX.lands_againZ fl3 fun h4 fl4 up4 => ?_
    have J4 : Inv X pins σ' H' { s' with heap := h4 } := J.landed nb fl4.1 ((up.trans up3).trans up4) os ag
    obtain ⟨oe4, vs4, he4, hz4, hd4⟩ := fl4.there
    have S4 := J4.suite he4 hd4 na nL nF
    refine store_ok (X := X.suite a ((a, oe4) :: (X.pn ++ pins))) (v := .ref a) S4 hN hi (.inl hln) rfl (fun s5 S5 => ?_) (.inr hln)
    refine wpAny_mono ((hsu a oe4 cls d (X.pn ++ pins) hz4 ⟨_, hd4⟩).run [] s5 _ H' _ S5 (hyes rfl a na)) (fun f s6 hsp => ?_) (fun _ _ z => False.elim z)
    have end_ : ∀ {σ6 : St} {H6 : Hp} {Q : Shared → Prop}, Inv (X.suite a ((a, oe4) :: (X.pn ++ pins))) [] σ6 H6 s6 → (∀ s7, Inv X pins (σ6.set i none) H6 s7 → Q s7) →
        wpAny (model X.prog X.w) X.A (do bindName X.env n .none; unbindBehindTheSuite X.env n pos') (fun _ s7 => Q s7) X.xe s6 := fun {σ6 H6 Q} S6 hq => gone_ok (S6.unsuite ok) hN hi hln hq
    cases f with
    | next => obtain ⟨σ6, H6, S6, q6⟩ := hsp; exact end_ S6 fun s7 J7 => ⟨_, _, J7, q6⟩
    | brk => obtain ⟨σ6, H6, S6, q6⟩ := hsp; exact end_ S6 fun s7 J7 => ⟨_, _, J7, q6⟩
    | cont => obtain ⟨σ6, H6, S6, q6⟩ := hsp; exact end_ S6 fun s7 J7 => ⟨_, _, J7, q6⟩
    | ret u => obtain ⟨v6, σ6, H6, S6, r6, q6⟩ := hsp; exact end_ S6 fun s7 J7 => ⟨_, _, _, J7, r6, q6⟩
  · cases f with
    | next => obtain ⟨σ', H', J', q⟩ := hsp; exact wpAny_execs_nil ⟨σ', H', J'.ofTry ok, q⟩
    | brk => obtain ⟨σ', H', J', q⟩ := hsp; exact ⟨σ', H', J'.ofTry ok, q⟩
    | cont => obtain ⟨σ', H', J', q⟩ := hsp; exact ⟨σ', H', J'.ofTry ok, q⟩
    | ret u => obtain ⟨v, σ', H', J', r, q⟩ := hsp; exact ⟨v, σ', H', J'.ofTry ok, r, q⟩
end
end L2N
namespace Fw
open PySem PySem.Spec PyProof.Rows L2
section
variable {K : PySem.W.Frag} {S : Dst} {σ : L2.St} {H : Hp} {ta tb : TE} {D : Ends} {C a b : Addr} {fs gs : List (Str × V)}
/-- try: n = l op r except .. as e: suite -/
theorem s_tryB {sp : Sp} {c : Value} {i j : Nat} {ts : Addr → Value → Option Addr → TS} {Wout : WX} {P : V → Hp → Prop} {PE : Value → Addr → Hp → Prop} (ha : Ev K S ta σ H (.ref a)) (hb : Ev K S tb σ H (.ref b)) (ia : IA S H a C fs) (ib : IA S H b C gs)
    (k : ∀ H1, Lx S H H1 → ∀ (Q : VK) (E : XK), (∀ v H2, Lx S H1 H2 → P v H2 → Q v H2) → (∀ cls d H2, Lx S H1 H2 → PE cls d H2 → E cls (some d) H2) → sp [.ref a, .ref b] H1 Q E)
    (kn : ∀ v H2, Lx S H H2 → P v H2 → D.nx (σ.set j (some v)) H2)
    (kk : ∀ cls d H2, Lx S H H2 → PE cls d H2 → PySem.W.exmOne K cls c = some true ∧ ∀ x, H2 x = none →
      St K S (ts x cls (some d)) { nx := fun σ' H' => D.nx (σ'.set i none) H', rt := D.rt, bk := fun σ' H' => D.bk (σ'.set i none) H', ct := fun σ' H' => D.ct (σ'.set i none) H' } (σ.set i (some (.ref x))) H2) :
    St K S (fun D σ H => tAsg (tBinS C sp (WE (wAs K c i ts Wout D)) ta tb) (gName j) D σ H) D σ H := fun H1 e => ha H1 e _ fun H2 e2 => hb H2 (e.trans e2) _ fun H3 e3 => by
  have w3 := (e.trans e2).trans e3
  obtain ⟨⟨dx, q1⟩, _⟩ := ia.mono w3
  obtain ⟨⟨dy, q2⟩, _⟩ := ib.mono w3
  refine ⟨a, b, rfl, rfl, ⟨_, _, q1⟩, ⟨_, _, q2⟩, k H3 w3 _ _ (fun v H4 e4 p => kn v H4 (w3.trans e4) p) fun cls d H4 e4 pe => ?_⟩
  obtain ⟨h1, h2⟩ := kk cls d H4 (w3.trans e4) pe
  exact ⟨true, h1, fun _ x hx => h2 x hx H4 (w3.trans e4).refl, fun z => by cases z⟩
end
end Fw

/-! len(o) of an own class; classmethods; cls(k = v, ..); C(k = v, ..); defs with defaults that are all written -/
namespace Fw
open PySem PySem.Spec PyProof.Rows L2
/-! ### len(o) -/
def rLenO (C : Addr) (sp : Sp) (E : XK) : List V → Hp → VK → Prop := fun xs H Q => ∃ a dx fs, xs = [.ref a] ∧ H a = some (.ins C dx fs) ∧ sp [.ref a] H (fun v H2 => ∃ n : Nat, v = .int (n : Int) ∧ n ≤ 1000000 ∧ Q v H2) E
section
variable {X : Cx} {CX : CXT} {k : Nat} {C f : Addr} {ps : List Str} {sp : Sp} {E : XK}
theorem call_lenO (K : PySem.W.Frag) (hK : X.K = K) (hm : Meth K C "__len__" f) (F : Ok X.prog X.w K X.mg X.base CX k f ps sp) (hr : Room (k + 1) X.A) (hx : Passes CX X E) : CallR X (.builtin "len") (rLenO C sp E) := by
  subst hK
  intro pins s σ H xs us Q I r h
  obtain ⟨a, dx, fs, rfl, ha, q⟩ := h
  obtain ⟨u, rfl, ru⟩ := vals1 r
  obtain rfl : u = Value.ref a := ru
  obtain ⟨_, _, J⟩ := inst_at I ⟨_, _, ha⟩
  obtain ⟨m, hF⟩ := I.fr
  refine Calls.call_function_entry (by decide +kernel) (by decide +kernel) entry_len (args_len1 _) ?_
  unfold Builtin.«len»
  refine wpAny_bind (m := oneArg "len" _) (wpAny_pure ?_)
  refine wpAny_bind (m := callSpecial? (.ref a) (Str.ofString "__len__")) (PySem.W.special_fn (name := Str.ofString "__len__") I.kIn J hm.at_ (beq_iff_eq.mp hm.fn) (wpAny_mono (wpAny_call (SlX.run_at (us := [.ref a]) (ws := [.ref a]) F.r hr.in1 I.env0.in1 hx I (.cons rfl .nil) q)) (fun w s' z => ?_) fun _ _ x => x))
  obtain ⟨z', H', I', rz, n, ez, hn, qz⟩ := z
  subst ez
  obtain ⟨t, rfl⟩ := rz
  refine wpAny_bind (wpAny_holding (wpAny_pure ?_))
  refine wpAny_bind (wpAny_letGo ?_)
  show wpAny _ _ (if ((n : Nat) : Int) < 0 then _ else _) _ _ _
  rw [if_neg (by omega)]
  show wpAny _ _ (if ((n : Nat) : Int) ≥ 2 ^ 63 then _ else _) _ _ _
  rw [if_neg (by omega)]
  exact wpAny_bind (wpAny_mkInt (wpAny_pure ⟨_, rfl, .int (n : Int), H', I'.tok _, ⟨_, rfl⟩, qz⟩))
end
end Fw
namespace Fw
open PySem PySem.Spec PyProof.Rows L2
section
variable {K : PySem.W.Frag} {S : Dst} {σ : L2.St} {H : Hp} {C a : Addr} {fs : List (Str × V)} {sp : Sp} {E : XK} {P : V → Hp → Prop}
theorem rc_lenO (i : IA S H a C fs) (k : SpX K S sp [.ref a] H E fun v H2 => ∃ n : Nat, v = .int (n : Int) ∧ n ≤ 1000000 ∧ P v H2) : RCX K S (rLenO C sp E) [.ref a] H P := fun H1 e Q q => by
  obtain ⟨⟨dx, q1⟩, _⟩ := i.mono e
  exact ⟨a, dx, fs, rfl, q1, k H1 e _ fun z H2 e2 ⟨n, hz, hn, p⟩ => ⟨n, hz, hn, q z H2 e2 p⟩⟩
end
/-! ### classmethods -/
structure CMt (K : PySem.W.Frag) (C : Addr) (m : Str) (p g : Addr) : Prop where
  rd : ClX.CRead K C (.type "type")
  cm : ClX.CMet K C (.type "type") m p g
def cmB (K : PySem.W.Frag) (x m : Str) : Bool := He5.wrapB K (He.ga K x) "classmethod" "classmethod.__get__" m && (PySem.W.fnIn K (He5.wf K (He.ga K x) "classmethod" m) && (PySem.W.readsIn K (He.ga K x) (.type "type") && He.eqO (PySem.W.specialIn K (.ref (He.ga K x)) "__getattribute__") (some (some (.builtin "type.__getattribute__")))))
theorem cmB_ok {K : PySem.W.Frag} {x m : Str} (h : cmB K x m = true) : CMt K (He.ga K x) m (He.ma K (He.ga K x) m) (He5.wf K (He.ga K x) "classmethod" m) := by
  obtain ⟨h1, h⟩ := He.ba h
  obtain ⟨h2, h⟩ := He.ba h
  obtain ⟨h3, h4⟩ := He.ba h
  exact ⟨⟨h3, He.eqO_ok h4⟩, He5.cmet_of h1 h2⟩
section
variable {X : Cx} {CX : CXT} {k n : Nat} {C p g : Addr} {x qual y : Str} {st : Stmt} {kwd : List (Str × V)} {ps ks : List Str} {sp : Sp} {E : XK} {o e : Expr} {es : List Expr} {m : Str} {pos apos : Pos} {ta : TE} {t tk : TA} {pl : Sem Bool} {kws : List Keyword}
theorem pe_cmethO (he : PE X o ta) (c : CMt X.K C m p g) (F : Ok X.prog X.w X.K X.mg X.base CX k g ps sp) (hr : Room k X.A) (hx : Passes CX X E) (ha : PA X (e :: es) t)
    (hst : starEach (e :: es) X.env = (false, eval e X.env) :: starEach es X.env := by rfl) (hpl : (backTo pos (starEach es X.env)).any (·.1) = false := by rfl)
    (ht : eval (.Call (.Attribute o m apos) (e :: es) [] pos) X.env = (do
      let ov ← eval o X.env
      standAt apos.atName
      let (f, first) ← holding [ov] (getMethod ov m pl)
      callWith pos f first (backTo pos (starEach (e :: es) X.env)) (backToKw pos (keywordEach [] X.env))) := by rfl) :
    PE X (.Call (.Attribute o m apos) (e :: es) [] pos) (ClX.tCMeth C sp E ta t) := ClX.pe_cmeth he c.rd c.cm F.r hr hx ha hst hpl ht
theorem pe_cmethO0 (he : PE X o ta) (c : CMt X.K C m p g) (F : Ok X.prog X.w X.K X.mg X.base CX k g ps sp) (hr : Room k X.A) (hx : Passes CX X E)
    (ht : eval (.Call (.Attribute o m apos) [] [] pos) X.env = (do
      let ov ← eval o X.env
      standAt apos.atName
      let (f, first) ← holding [ov] (getMethod ov m pl)
      callWith pos f first (backTo pos (starEach [] X.env)) (backToKw pos (keywordEach [] X.env))) := by rfl) :
    PE X (.Call (.Attribute o m apos) [] [] pos) (ClX.tCMeth C sp E ta tNil) := by
  refine ⟨fun pins s σ H Q I h => ?_⟩
  refine PySem.W.methodCall_KW (pl := pl) (thn (he.run pins s σ H _ I h) fun u s1 ⟨x, H1, I1, rx, ex, q⟩ => ?_) ht
  subst ex
  obtain rfl : u = Value.ref C := rx
  refine ClX.getmethcm_ok I1 c.rd c.cm fun s2 I2 => ?_
  exact PySem.W.callWith_M0 (K := X.K) ⟨ClX.pin_at I2, I2.kIn⟩ c.cm.fi (ClX.run_cm F.r hr hx I2 .nil q)
/-- x(k = v, ..), x a local name that holds the class -/
def tMakeV (i : Nat) (C : Addr) (m : Nat) (sp : Sp) (E : XK) (tk : TA) : TE := fun σ H Q => σ[i]? = some (some (.ref C)) ∧ tMakeK C 0 m sp (fun vs zs => vs ++ zs) E tNil tk σ H Q
theorem pe_makeKO (M : Mk X.K C g) (F : OkK X.prog X.w X.K X.mg X.base CX k x qual st kwd g ps sp) (hk : kwd ≠ []) (hb : BindK x qual st ps 1 ks [] fun us _ ws => us ++ ws) (hr : Room (k + 1) X.A) (hg : Gl X y) (hm : X.mg y = some (.ref C)) (hx : Passes CX X E) (hkw : PK X kws tk)
    (hall : (backToKw pos (keywordEach kws X.env)).all (·.1.isSome) = true := by rfl) (hks : (backToKw pos (keywordEach kws X.env)).filterMap (·.1) = ks := by rfl) (hdb : (y == ("__debug__" : Str)) = false := by decide)
    (hpl : ((backTo pos (starEach [] X.env)).any (·.1) || (backToKw pos (keywordEach kws X.env)).any (·.1.isNone)) = false := by rfl) :
    PE X (.Call (.Name y apos) [] kws pos) (tMakeK C 0 ks.length sp (fun vs zs => vs ++ zs) E tNil tk) := by
  obtain ⟨fd, F, G⟩ := F
  obtain ⟨mv, bn⟩ := F.kbinds0 1 ks [] (fun us _ ws => us ++ ws) hk (fun _ h => nomatch h) (fun a _ c => a.append c) fun D doc pm an cdv ct us mv ws h1 h2 h3 => hb D doc pm an cdv ct us mv ws h1 h2 h3
  exact pe_makeK0 M G hr hg hm bn hx hkw hall hks hdb hpl
theorem pe_makeKV {i : Nat} (M : Mk X.K C g) (F : OkK X.prog X.w X.K X.mg X.base CX k x qual st kwd g ps sp) (hk : kwd ≠ []) (hb : BindK x qual st ps 1 ks [] fun us _ ws => us ++ ws) (hr : Room (k + 1) X.A) (hN : X.N[i]? = some y) (hv : Vis X.env.scope y) (hx : Passes CX X E) (hkw : PK X kws tk)
    (hall : (backToKw pos (keywordEach kws X.env)).all (·.1.isSome) = true := by rfl) (hks : (backToKw pos (keywordEach kws X.env)).filterMap (·.1) = ks := by rfl) (hdb : (y == ("__debug__" : Str)) = false := by decide) (hcd : (y == ("__classdict__" : Str)) = false := by decide)
    (hpl : ((backTo pos (starEach [] X.env)).any (·.1) || (backToKw pos (keywordEach kws X.env)).any (·.1.isNone)) = false := by rfl) :
    PE X (.Call (.Name y apos) [] kws pos) (tMakeV i C ks.length sp E tk) := by
  obtain ⟨fd, F, G⟩ := F
  obtain ⟨mv, bn⟩ := F.kbinds0 1 ks [] (fun us _ ws => us ++ ws) hk (fun _ h => nomatch h) (fun a _ c => a.append c) fun D doc pm an cdv ct us mv ws h1 h2 h3 => hb D doc pm an cdv ct us mv ws h1 h2 h3
  refine ⟨fun pins s σ H Q I h => ?_⟩
  obtain ⟨hs, h⟩ := h
  refine wpAny_Call_Name_kw (thn ((pe_var (pos := apos) (i := i) hN hv hdb hcd).run pins s σ H (fun v H1 => v = .ref C ∧ H1 = H) I ⟨.ref C, hs, rfl, rfl⟩) fun u s1 ⟨v, H1, I1, r1, ev, eH⟩ => ?_)
  subst ev
  rw [eH] at I1
  cases r1
  refine PySem.W.callWith_KW0 (h₀ := X.base) I1.ok.mod.kin M.kp hall ?_ hpl
  refine thn (hkw.run pos pins s1 σ H _ I1 h) fun ws s2 ⟨zs, H2, I2, rz, l1, l2, q2⟩ => ⟨I2.kIn, ?_⟩
  rw [hks]
  exact run_makeK (us := []) (vs := []) M G hr bn hx I2 .nil rz rfl l2 q2
end
section
variable {K : PySem.W.Frag} {S : Dst} {σ : L2.St} {H : Hp} {C : Addr} {fs : List (Str × V)} {sp : Sp} {E : XK} {P : V → Hp → Prop} {ta : TE} {tas tks : TA} {vs zs : List V} {m : Nat}
theorem ex_makeK {A : List V → List (Str × V) → Prop} (h : EvA K S tks σ H zs) (hl : zs.length = m) (k : A zs fs) : EvX K S (tMakeK C 0 m (sp_init C fun vs fs _ => A vs fs) (fun vs zs => vs ++ zs) E tNil tks) σ H (NewI S H C fs) := fun H1 e Q q =>
  h H1 e _ fun H2 e2 => ⟨rfl, hl, fun x dx h1 h2 ne => by
    have w2 := e.trans e2
    have e3 : Lx S H2 (Raw H2 x dx C) := w2.raw h1 h2 ne
    have nx : ¬ Sx S x := w2.ns h1
    refine ⟨x, dx, zs, fs, rfl, upd_same, by show upd _ _ _ _ = _; rw [upd_ne ne, upd_same], ne, k, fun H3 e4 => ⟨rfl, q _ _ ?_ ⟨x, rfl, w2.fresh h1, ⟨dx, e4.1 _ _ sx_none upd_same⟩, nx⟩⟩⟩
    have e5 : Lx S H2 (upd (Raw H2 x dx C) x (.ins C dx fs)) := e3.put nx fun u z => by rw [h1] at z; cases z
    exact (e2.trans e5).trans ((w2.trans e5).of0 e4)⟩
theorem ex_cmeth (h : Ev K S ta σ H (.ref C)) (ha : EvA K S tas σ H vs) (k : SpX K S sp (.ref C :: vs) H E P) : EvX K S (ClX.tCMeth C sp E ta tas) σ H P := fun H1 e Q q =>
  h H1 e _ fun H2 e2 => ⟨rfl, ha H2 (e.trans e2) _ fun H3 e3 => k H3 ((e.trans e2).trans e3) Q fun z H4 e4 p => q z H4 ((e2.trans e3).trans e4) p⟩
end
/-! ### a def with defaults, called with all values -/
abbrev FnIsD (K : PySem.W.Frag) (x qual : Str) (st : Stmt) (dvs : List V) (f : Addr) : Prop := ∃ fd, FunD K x qual (defArgs st) (defBody st) (defScope st) dvs [] f fd
section
variable {P : Program} {w : World} {K : PySem.W.Frag} {mg : Str → Option Value} {base : Heap} {x qual : Str} {st : Stmt} {dvs : List V} {f : Addr}
theorem okDD {N ps : List Str} {k : Nat} {sp : Sp} (F : FnIsD K x qual st dvs f) (hd : dvs ≠ []) (S : FnScope N ps (defScope st))
    (hb : ∀ (T : Addr) (kV doc pm : Value) (an : Option Addr) (cdv ct : Value) (us its : List Value), us.length = ps.length → its.length = dvs.length → ∃ k, bindArgs (PySem.W.fnOf x qual (defArgs st) (defBody st) (defScope st) (.ref T) kV doc pm an cdv ct) ⟨us, []⟩ = seqItems? (.ref T) >>= k ∧ k (some its.toArray) = pure (ps.zip us))
    (len : ∀ vs H Q E, sp vs H Q E → vs.length = ps.length)
    (hbody : ∀ (cdv : Value) (A : Around) (outer : List Env) (s : Shared) (H : Hp) (vs : List V) (Q : VK) (E : XK), Room k (A.deeper (envOfC qual (defScope st) s.heap.objs.size f cdv)) → sp vs H Q E →
      ∃ t, PSs (cxOf CX0 P w K mg base N qual (defScope st) f cdv A outer s H E).nox (defBody st) t ∧ t { nx := fun _ H' => Q .non H', rt := Q } (start N vs) H) : Ok P w K mg base CX0 (k + 1) f ps sp := by
  obtain ⟨fd, F⟩ := F
  have bn : Binds K fd ps [] := by
    obtain ⟨ds, rd, b⟩ := F.binds1 (ps := ps) ps.length dvs.length hd (by omega) fun T kV doc pm an cdv ct us its h1 h2 => by
      obtain ⟨k, e1, e2⟩ := hb T kV doc pm an cdv ct us its h1 h2
      exact ⟨k, e1, by rw [e2, List.drop_of_length_le (by omega), List.append_nil]⟩
    rw [List.drop_length] at rd
    cases rd
    exact b
  refine ⟨fd, F.ok S len fun cdv A outer s H vs Q E hr hsp => ?_, bn, F.kp, by obtain ⟨oc, od, _, _, _, _, _, _, _, osl, _, lk, _⟩ := F.ex; exact ⟨oc, od, osl, lk⟩⟩
  obtain ⟨t, h, q⟩ := hbody cdv A outer s H vs Q E hr hsp
  exact ⟨t, h.nox, q⟩
end
end Fw

/-! x op= y of an own class; cls(e, ..), cls a local name -/
namespace Fw
open PySem PySem.Spec PyProof.Rows L2
def ipO (C : Addr) (sp : Sp) (E : XK) : TIp := fun x y H Q => ∃ a, x = .ref a ∧ (∃ dx fs, H a = some (.ins C dx fs)) ∧ sp [.ref a, y] H Q E
/-- x(e, ..), x a local name that holds the class -/
def tMakeRV (i : Nat) (C : Addr) (sp : Sp) (E : XK) (t : TA) : TE := fun σ H Q => σ[i]? = some (some (.ref C)) ∧ StX.tMakeR C sp E t σ H Q
section
variable {X : Cx} {CX : CXT} {k : Nat} {C g : Addr} {ps : List Str} {sp : Sp} {op : Operator} {E : XK} {y : Str} {e : Expr} {es : List Expr} {t : TA} {pos apos : Pos}
theorem ip_own (K : PySem.W.Frag) (hK : X.K = K) (hc : PySem.W.selfFirst K C = true) (hm : Meth K C (PySem.dunderI op.info.2) g) (F : Ok X.prog X.w K X.mg X.base CX k g ps sp) (hr : Room k X.A) (hx : Passes CX X E) : PIp X op (ipO C sp E) := by
  subst hK
  intro pins s σ H x y v u Q I rx ry h
  obtain ⟨p, rfl, hp, z⟩ := h
  cases (show v = Value.ref p from rx)
  obtain ⟨_, _, J⟩ := inst_at I hp
  obtain ⟨m, hF⟩ := I.fr
  refine PySem.W.ksp_inplace hF I.ok.mod.kin J hc hm.at_ hm.fn (wpAny_mono (wpAny_call (run_fnR (us := [.ref p, u]) (vs := [.ref p, y]) F.r hr hx I (.cons rfl (.cons ry .nil)) z)) (fun w s' z => ?_) fun _ _ x => x)
  obtain ⟨z', H', I', rz, qz⟩ := z
  exact SlX.cmpback rz ⟨z', H', I', rz, qz⟩
theorem pe_makeRV {i : Nat} (M : Mk X.K C g) (F : OkV X.prog X.w X.K X.mg X.base k g sp) (hr : Room (k + 1) X.A) (hN : X.N[i]? = some y) (hv : Vis X.env.scope y) (hx : Passes CX0 X E) (ha : PA X (e :: es) t) (hdb : (y == ("__debug__" : Str)) = false := by decide) (hcd : (y == ("__classdict__" : Str)) = false := by decide)
    (he : starEach (e :: es) X.env = (false, eval e X.env) :: starEach es X.env := by rfl) (hpl : (backTo pos (starEach es X.env)).any (·.1) = false := by rfl) : PE X (.Call (.Name y apos) (e :: es) [] pos) (tMakeRV i C sp E t) := by
  refine ⟨fun pins s σ H Q I h => ?_⟩
  obtain ⟨hs, h⟩ := h
  refine wpAny_Call_Name_kw (thn ((pe_var (pos := apos) (i := i) hN hv hdb hcd).run pins s σ H (fun v H1 => v = .ref C ∧ H1 = H) I ⟨.ref C, hs, rfl, rfl⟩) fun u s1 ⟨v, H1, I1, r1, ev, eH⟩ => ?_)
  subst ev
  rw [eH] at I1
  cases r1
  exact PySem.W.callWith_K (h₀ := X.base) I1.ok.mod.kin M.kp (thn (ha.run pos pins s1 σ H _ I1 h) fun us s2 ⟨vs, H2, I2, r, q⟩ => ⟨I2.kIn, StX.run_makeR M F.1 hr hx I2 r q⟩) he hpl
end
section
variable {K : PySem.W.Frag} {S : Dst} {σ : L2.St} {H : Hp} {C a : Addr} {fs : List (Str × V)} {sp : Sp} {E : XK} {te : TE} {y : V} {D : Ends} {tz : TS}
theorem s_augO {i : Nat} (hσ : σ[i]? = some (some (.ref a))) (h : Ev K S te σ H y) (ia : IA S H a C fs) (k : ∀ H1, Lx S H H1 → sp [.ref a, y] H1 (fun z H2 => tz D (σ.set i (some z)) H2) E) : St K S (tSeq (tAug i te (ipO C sp E)) tz) D σ H := fun H1 e =>
  ⟨_, hσ, h H1 e _ fun H2 e2 => by
    obtain ⟨⟨dx, q⟩, _⟩ := ia.mono (e.trans e2)
    exact ⟨a, rfl, ⟨_, _, q⟩, k H2 (e.trans e2)⟩⟩
theorem s_augO1 {i : Nat} (hσ : σ[i]? = some (some (.ref a))) (h : Ev K S te σ H y) (ia : IA S H a C fs) (k : ∀ H1, Lx S H H1 → sp [.ref a, y] H1 (fun z H2 => D.nx (σ.set i (some z)) H2) E) : St K S (tAug i te (ipO C sp E)) D σ H := fun H1 e =>
  ⟨_, hσ, h H1 e _ fun H2 e2 => by
    obtain ⟨⟨dx, q⟩, _⟩ := ia.mono (e.trans e2)
    exact ⟨a, rfl, ⟨_, _, q⟩, k H2 (e.trans e2)⟩⟩
theorem ex_makeRV {i : Nat} {tas : TA} {P : V → Hp → Prop} (hσ : σ[i]? = some (some (.ref C))) (h : EvX K S (StX.tMakeR C sp E tas) σ H P) : EvX K S (tMakeRV i C sp E tas) σ H P := fun H1 e Q q => ⟨hσ, h H1 e Q q⟩
end
section
variable {K : PySem.W.Frag} {S : Dst} {σ : L2.St} {H : Hp} {sp : Sp} {E : XK} {tas tks : TA} {zs : List V} {n m : Nat} {P : V → Hp → Prop}
theorem ex_callNX {PA : List V → Hp → Prop} (h : EvAX K S tas σ H PA) (hk : ∀ H1, Lx S H H1 → EvA K S tks σ H1 zs) (l1 : ∀ vs H1, PA vs H1 → vs.length = n) (l2 : zs.length = m) (k : ∀ vs H1 H2, Lx S H H1 → PA vs H1 → Lx S H1 H2 → SpX K S sp (vs ++ zs) H2 E P) : EvX K S (tCallN n m sp (fun vs zs => vs ++ zs) E tas tks) σ H P := fun H1 e Q q =>
  h H1 e _ fun vs H2 e2 p => hk H2 (e.trans e2) H2 (e.trans e2).refl _ fun H3 e3 => ⟨l1 vs H2 p, l2, k vs H2 H3 (e.trans e2) p e3 H3 ((e.trans e2).trans e3).refl Q fun z H4 e4 pz => q z H4 ((e2.trans e3).trans e4) pz⟩
end
end Fw

/-! o.f = v where f is a property with a setter; C(e, .., k = v, ..) where some keywords are left out -/
namespace Fw
open PySem PySem.Spec PyProof.Rows L2
/-- the class has the name as a property at p whose setter is the def at g -/
structure PrS (K : PySem.W.Frag) (C : Addr) (f : Str) (p g : Addr) : Prop where
  tk : PySem.W.takerIn K C f = some (some (.ref p))
  ty : PySem.W.typeIn K (.ref p) = some (.type "property")
  rc : ∃ a rest, PySem.W.recIn K p "property" = some (a :: .ref g :: rest)
/-- the setter of the property at p -/
def setF_ (K : PySem.W.Frag) (p : Addr) : Addr := match PySem.W.recIn K p "property" with
  | some (_ :: .ref g :: _) => g
  | _ => 0
def prsB (K : PySem.W.Frag) (x f : Str) : Bool := He.eqO (PySem.W.takerIn K (He.ga K x) f) (some (some (.ref (He.ma K (He.ga K x) f)))) && (decide (PySem.W.typeIn K (.ref (He.ma K (He.ga K x) f)) = some (Value.type "property")) && (match PySem.W.recIn K (He.ma K (He.ga K x) f) "property" with
    | some (_ :: .ref _ :: _) => true
    | _ => false))
theorem prsB_ok {K : PySem.W.Frag} {x f : Str} (h : prsB K x f = true) : PrS K (He.ga K x) f (He.ma K (He.ga K x) f) (setF_ K (He.ma K (He.ga K x) f)) := by
  obtain ⟨h1, h⟩ := He.ba h
  obtain ⟨h2, h3⟩ := He.ba h
  refine ⟨He.eqO_ok h1, of_decide_eq_true h2, ?_⟩
  unfold setF_
  split at h3
  · rename_i a g rest e
    rw [e]
    exact ⟨a, rest, rfl⟩
  · cases h3
def sFldSet (C : Addr) (sp : Sp) (E : XK) (ta tv : TE) : TS := fun D σ H => tv σ H fun v H1 => ta σ H1 fun x H2 => ∃ a dx fs, x = .ref a ∧ H2 a = some (.ins C dx fs) ∧ sp [.ref a, v] H2 (fun _ H3 => D.nx σ H3) E
section
variable {X : Cx} {CX : CXT} {k n : Nat} {C p g : Addr} {ps ks : List Str} {sp : Sp} {E : XK} {f y : Str} {o value e : Expr} {es : List Expr} {ta tv : TE} {t tk : TA} {pos pos' apos : Pos} {x qual : Str} {st : Stmt} {kwd : List (Str × V)} {kws : List Keyword}
theorem ps_fldP (ha : PE X o ta) (hv : PE X value tv) (c : Cls X.K C) (hp : PrS X.K C f p g) (F : Ok X.prog X.w X.K X.mg X.base CX k g ps sp) (hr : Room (k + 2) X.A) (hx : Passes CX X E) (hs : swapsWith value (some (.Attribute o f pos')) pos.line X.env = pure false) :
    PS X (.Assign [.Attribute o f pos'] value pos) (sFldSet C sp E ta tv) := by
  refine ⟨fun pins s σ H D I h => ?_⟩
  refine plainObj_wpAny_Assign_Attribute (thn (hv.run pins s σ H _ I h) fun u s1 ⟨y, H1, I1, ry, q⟩ => thn (ha.run pins s1 σ H1 _ I1 q) fun ov s2 ⟨x, H2, I2, rx, a, dx, fs, ex, ea, q2⟩ => ?_) hs
  subst ex
  obtain rfl : ov = Value.ref a := rx
  obtain ⟨mA, O, _⟩ := ins_get I2.hok ea
  obtain ⟨od, J, _⟩ := O.look
  obtain ⟨av, rest, hrec⟩ := hp.rc
  obtain ⟨m, hF⟩ := I2.fr
  have I3 := I2.tok (s2.toks + 1)
  refine PySem.W.set_prop hF I2.ok.mod.kin J c.sa c.po hp.tk hp.ty hrec (codeAny_mono (SlX.run_at (us := [.ref a, u]) (ws := [.ref a, y]) F.r hr.in1.in1 I3.env0.in1.in1 hx I3 (.cons rfl (.cons ry .nil)) q2) fun r s' hq => ?_)
  cases r with
  | error e => exact hq
  | ok fl =>
    cases fl with
    | ret u =>
      obtain ⟨z, H', I', rz, qz⟩ := hq
      exact ⟨σ, H', I', qz⟩
    | next => exact hq
    | brk => exact hq
    | cont => exact hq
theorem pe_makeKP (M : Mk X.K C g) (F : OkK X.prog X.w X.K X.mg X.base CX k x qual st kwd g ps sp) (ms : List (Str × V)) (gg : {α : Type} → List α → List α → List α → List α) (hk : kwd ≠ []) (hms : ∀ q ∈ ms, q ∈ kwd)
    (hrel : ∀ {vs mz zs : List V} {us mv ws : List Value}, Vals vs us → Vals mz mv → Vals zs ws → Vals (gg vs mz zs) (gg us mv ws)) (hb : BindK x qual st ps (n + 1) ks (ms.map (·.1)) fun us mv ws => gg us mv ws) (hr : Room (k + 1) X.A) (hg : Gl X y) (hm : X.mg y = some (.ref C)) (hx : Passes CX X E) (ha : PA X (e :: es) t) (hkw : PK X kws tk)
    (hall : (backToKw pos (keywordEach kws X.env)).all (·.1.isSome) = true := by rfl) (hks : (backToKw pos (keywordEach kws X.env)).filterMap (·.1) = ks := by rfl) (hdb : (y == ("__debug__" : Str)) = false := by decide)
    (he : starEach (e :: es) X.env = (false, eval e X.env) :: starEach es X.env := by rfl) (hpl : ((backTo pos (starEach (e :: es) X.env)).any (·.1) || (backToKw pos (keywordEach kws X.env)).any (·.1.isNone)) = false := by rfl) :
    PE X (.Call (.Name y apos) (e :: es) kws pos) (tMakeK C n ks.length sp (fun vs zs => gg vs (ms.map (·.2)) zs) E t tk) := by
  obtain ⟨fd, F, G⟩ := F
  obtain ⟨mv, bn⟩ := F.kbinds0 (n + 1) ks ms gg hk hms hrel fun D doc pm an cdv ct us mv ws h1 h2 h3 => hb D doc pm an cdv ct us mv ws h1 (by rw [h2, List.length_map]) h3
  exact pe_makeK M G hr hg hm bn hx ha hkw hall hks hdb he hpl
end
section
variable {K : PySem.W.Frag} {S : Dst} {σ : L2.St} {H : Hp} {C a : Addr} {fs : List (Str × V)} {sp : Sp} {E : XK} {ta tv : TE} {v : V} {D : Ends} {tz : TS}
theorem s_fldP (hv : Ev K S tv σ H v) (ha : Ev K S ta σ H (.ref a)) (ia : IA S H a C fs) (k : ∀ H1, Lx S H H1 → sp [.ref a, v] H1 (fun _ H2 => tz D σ H2) E) : St K S (tSeq (sFldSet C sp E ta tv) tz) D σ H := fun H1 e =>
  hv H1 e _ fun H2 e2 => ha H2 (e.trans e2) _ fun H3 e3 => by
    obtain ⟨⟨dx, q⟩, _⟩ := ia.mono ((e.trans e2).trans e3)
    exact ⟨a, dx, _, rfl, q, k H3 ((e.trans e2).trans e3)⟩
theorem s_fldP1 (hv : Ev K S tv σ H v) (ha : Ev K S ta σ H (.ref a)) (ia : IA S H a C fs) (k : ∀ H1, Lx S H H1 → sp [.ref a, v] H1 (fun _ H2 => D.nx σ H2) E) : St K S (sFldSet C sp E ta tv) D σ H := fun H1 e =>
  hv H1 e _ fun H2 e2 => ha H2 (e.trans e2) _ fun H3 e3 => by
    obtain ⟨⟨dx, q⟩, _⟩ := ia.mono ((e.trans e2).trans e3)
    exact ⟨a, dx, _, rfl, q, k H3 ((e.trans e2).trans e3)⟩
end
end Fw

/-! enumerate(t), t a tuple -/
namespace Fw
open PySem PySem.Spec PyProof.Rows L2
/-- a tuple's items, with their places, in new pairs -/
def IteT (K : PySem.W.Frag) (a : Addr) : It :=
  ⟨fun i H => ∃ (xs : List V) (x : V), SqT K H a xs ∧ xs[i]? = some x, fun i H v H' => ∃ T x, v = .ref T ∧ H T = none ∧ H' = upd H T (.tup [.int (i : Nat), x]) ∧ ∀ xs, SqT K H a xs → xs[i]? = some x, fun i H => ∃ xs : List V, SqT K H a xs ∧ xs.length ≤ i⟩
theorem tup_ne {h : Heap} {a it : Addr} {i : Nat} {its : Array Value} (p : h.IsTuple a its) (q : h.IsTupleIter it a i) : a ≠ it := fun z => by
  subst z
  obtain ⟨o, ho, hc, _⟩ := p
  obtain ⟨o', ho', hc', _⟩ := q
  rw [ho] at ho'
  cases ho'
  rw [hc] at hc'
  injection hc' with z
  exact absurd z (by decide)
theorem tup_ne2 {h : Heap} {a e it : Addr} {i : Int} {old : Value} {its : Array Value} (p : h.IsTuple a its) (q : IsEnum h e it i old) : a ≠ e := fun z => by
  subst z
  obtain ⟨o, ho, hc, _⟩ := p
  rw [show h.get? a = some _ from q] at ho
  cases ho
  injection hc with z
  exact absurd z (by decide)
theorem enumT_end {prog : Program} {w : World} {A : Around} {E : Value → Shared → Prop} {s : Shared} {e it t : Addr} {n : Nat} {items : Array Value} {i : Int} {old : Value} {Q : Option Value → Shared → Prop} (hh : A.in1.handled = none) (he : IsEnum s.heap e it i old) (hit : s.heap.IsTupleIter it t n) (ht : s.heap.IsTuple t items) (hx : items[n]? = none)
    (hQ : ∀ h', Heap.ExtBut it s.heap h' → Q none { s with heap := h' }) : wpAny (model prog w) A (pyNext (.ref e)) Q E s := by
  have hT : s.TypeIs (.ref e) "enumerate" := ⟨_, he, rfl⟩
  unfold pyNext
  refine wpAny_bind (wpAny_attempt (wpAny_callSpecial?_slot (name := Str.ofString "__next__") hT F.slot_enumerate_next
    (wpAny_call_entry F.slot_enumerate_next hT F.entry_enumerate_next ?_ (F.args_enumerate_next_1 _))))
  show wpAny _ _ (field (.ref e) 2 >>= _) _ _ _
  refine wpAny_bind (wpAny_field he rfl (x := .ref it) rfl ?_)
  refine wpAny_bind (wpAny_nextOf_tuple_end hh hit ht hx fun h' x he' hx' => ?_)
  obtain ⟨o, ho, hc⟩ := hx'
  refine wpAny_bind (wpAny_isInstance (T := "StopIteration") (b := true) ⟨o, ho, hc⟩ isSubtype_stop ?_)
  exact wpAny_pure (hQ _ he')
theorem turn_enumT {P : Program} {w : World} {K : PySem.W.Frag} {elts : List Expr} {kk : Nat} {tpos : Pos} (a e it : Addr) :
    Turn P w K (.Tuple elts kk tpos) (IteT K a) [e, it] e (fun i h => (∃ old, IsEnum h e it ((i : Nat) : Int) old) ∧ h.IsTupleIter it a i ∧ e ≠ it) where
  mem := by simp
  obj := fun i h st b hb => by
    obtain ⟨⟨old, he⟩, ⟨o, ho, hc, hd⟩, _⟩ := st
    have e' : b = e ∨ b = it := by simpa using hb
    rcases e' with z | z
    · rw [z]; exact ⟨_, he, fun v q => nomatch q⟩
    · rw [z]; exact ⟨o, ho, fun v q => by rw [hd] at q; cases q⟩
  keep := fun i h h' st k => let ⟨⟨old, he⟩, hi, hne⟩ := st; ⟨⟨old, k e (by simp) _ he⟩, hi.at fun o q => k it (by simp) o q, hne⟩
  item := by
    intro X hP hw hK hc i pins s σ H E I hf st hg
    subst hP hw hK
    obtain ⟨⟨old, he⟩, hit, hne⟩ := st
    obtain ⟨xs, x, hq, hx⟩ := hg
    obtain ⟨its, rv, p, hz⟩ := I.tuple hq
    obtain ⟨u, hu, ru⟩ := rv.get hx
    have p' : s.heap.IsTuple a its.toArray := p
    have hel : e < s.heap.objs.size := Heap.lt_size he
    have hil : it < s.heap.objs.size := by obtain ⟨_, q, _⟩ := hit; exact Heap.lt_size q
    have il : i < its.toArray.size := by
      have := (List.getElem?_eq_some_iff.mp hu).1
      simpa using this
    have hca : X.A.in1.handled = none := I.ok.hd hc
    refine wpAny_pyNext_enum_itemD (Draws.tuple hca it a (tup_ne p' hit) its.toArray) he ⟨hit, p'⟩ il hne (fun z => by
      have z' : e = it ∨ e = a := by simpa using z
      rcases z' with z | z
      · exact hne z
      · exact tup_ne2 p' he z.symm) fun u' h' tk hu' ho hst hT hsz hk => ?_
    obtain ⟨hit', _⟩ := hst
    have eu : u' = u := by
      have hu' : its.toArray[i]? = some u' := hu'
      rw [List.getElem?_toArray, hu] at hu'
      cases hu'
      rfl
    subst eu
    refine ⟨_, rfl, wpAny_letOwnedTupleGo_enum (s := { s with heap := h', toks := tk + 1 }) ho fun h'' he' sb => ?_⟩
    have hT2 : h''.get? s.heap.objs.size = some { cls := .type "tuple", data := .seq #[.int i tk, u'] } := (sb.2 _ (Nat.ne_of_gt hel)).trans hT
    have new : ObjOk X.prog X.w (upd H s.heap.objs.size (.tup [.int (i : Nat), x])) h'' s.heap.objs.size (.tup [.int (i : Nat), x]) :=
      ⟨by show 2 ≤ sizeLine; decide, [.int i tk, u'], .cons ⟨_, rfl⟩ (.cons ru .nil), ⟨_, hT2, rfl, _, rfl⟩⟩
    have I1 : Inv X pins σ (upd H s.heap.objs.size (.tup [.int (i : Nat), x])) { s with heap := h'', toks := tk + 1 } :=
      I.turnedNew (ch := [e, it]) (fun b ob hb q => (sb.2 b (fun z => hb (by simp [z]))).trans (hk b ob (fun z => hb (by simp [z])) (fun z => hb (by simp [z])) q)) hf (Nat.le_refl _) new
    refine ⟨.ref s.heap.objs.size, _, I1, rfl, ⟨_, x, rfl, I.hok.fresh (Nat.le_refl _), rfl, fun ys hy => by rw [I.tuple_inj hy hq]; exact hx⟩, ⟨⟨u', ?_⟩, hit'.at fun o q => (sb.2 it (Ne.symm hne)).trans q, hne⟩, fun b hb => ?_⟩
    · have e1 : ((i + 1 : Nat) : Int) = (i : Int) + 1 := by omega
      rw [e1]; exact he'
    · have hb' : b < s.heap.objs.size := by
        have e' : b = e ∨ b = it := by simpa using hb
        rcases e' with z | z
        · rw [z]; exact hel
        · rw [z]; exact hil
      rw [upd_ne (Nat.ne_of_lt hb')]
      exact (hf b hb).1
  done := by
    intro X hP hw hK hc i pins s σ H E I hf st hg
    subst hP hw hK
    obtain ⟨⟨old, he⟩, hit, hne⟩ := st
    obtain ⟨xs, hq, hx⟩ := hg
    obtain ⟨its, rv, p, hz⟩ := I.tuple hq
    have p' : s.heap.IsTuple a its.toArray := p
    obtain ⟨f0, f1, f2, f3, f4, f5⟩ := hf it (by simp)
    have hl := rv.length
    have hca : X.A.in1.handled = none := I.ok.hd hc
    exact enumT_end hca he hit p' (by simp; omega) fun h' eb => ⟨rfl, I.turned (t' := s.toks) (fun b o hb q => eb b o hb q) f0 f1 f3 f4 f5⟩
  self := fun A i s Q E st h => let ⟨⟨_, he⟩, _⟩ := st; wpAny_pyIter_enum he h
theorem meets_enumerate_newB1 {v : Value} {o : Obj} {H : Heap → Prop} (B : Begins v o H) :
    Meets (Builtin.«enumerate.__new__» ⟨[.type "enumerate", v], []⟩) (fun _ R s => H s.heap ∧
      R (.ok (.ret (.ref (s.heap.push o).objs.size))) { s with heap := (s.heap.push o).push { cls := .type "enumerate", data := .fields #[.none, .bool false, .ref s.heap.objs.size, rawInt 0, .none, .none] } }) :=
  .of_wp fun prog w A R s h => by
    obtain ⟨hp, g, d, tk, os⟩ := s; obtain ⟨h1, h⟩ := h
    have hsub := sub_enumerate
    have q1 : ∀ {A' : Around} {E : Value → Shared → Prop} {Q : Value → Shared → Prop}, Q (.ref hp.objs.size) ⟨hp.push o, g, d, tk, os⟩ → wpAny (model prog w) A' (pyIter v) Q E ⟨hp, g, d, tk, os⟩ :=
      fun q => B.iter prog w _ _ ⟨hp, g, d, tk, os⟩ _ h1 q
    wp_walk using q1
    refine wpAny_stack_any fun st => wpAny_pure ?_
    split
    · rename_i c _ _ _ _ _
      cases (c == Value.type "enumerate")
      · wp_walk using q1
        exact ⟨_, rfl, h⟩
      · wp_walk using q1
        exact ⟨_, rfl, h⟩
    · wp_walk using q1
      exact ⟨_, rfl, h⟩
theorem enum_begins1 {prog : Program} {w : World} {A : Around} {E : Value → Shared → Prop} {s : Shared} {v : Value} {o : Obj} {H : Heap → Prop} {Q : Value → Shared → Prop} (B : Begins v o H) (h1 : H s.heap)
    (h : ∀ h', IsEnum h' (s.heap.objs.size + 1) s.heap.objs.size 0 .none → h'.get? s.heap.objs.size = some o → h'.objs.size = s.heap.objs.size + 2 →
      (∀ b o, s.heap.get? b = some o → h'.get? b = some o) → Q (.ref (s.heap.objs.size + 1)) { s with heap := h' }) :
    wpAny (model prog w) A (call (.type "enumerate") [v]) Q E s := by
  refine callType_new F.called_enumerate (by decide) (F.typeCall_enumerate_1 _) (F.newCall_enumerate_1 _) (fun obj => F.args_object_init_2 obj _) F.entry_enumerate_new
    (meets_enumerate_newB1 B) ⟨h1, ?_⟩
  have hz : (s.heap.push o).objs.size = s.heap.objs.size + 1 := Heap.size_push ..
  show _ ∧ _
  rw [hz]
  have he : IsEnum ((s.heap.push o).push { cls := .type "enumerate", data := .fields #[.none, .bool false, .ref s.heap.objs.size, rawInt 0, .none, .none] }) (s.heap.objs.size + 1) s.heap.objs.size 0 .none := by
    have := Heap.get?_push_size (s.heap.push o) (o := { cls := .type "enumerate", data := .fields #[.none, .bool false, .ref s.heap.objs.size, rawInt 0, .none, .none] }) rfl
    rw [hz] at this; exact this
  refine ⟨⟨_, he, rfl⟩, h _ he (Heap.get?_push_of_some _ (Heap.get?_push_size _ B.free)) (by rw [Heap.size_push, hz]) fun b o x => Heap.get?_push_of_some _ (Heap.get?_push_of_some _ x)⟩
def iEnumT (K : PySem.W.Frag) (ta : TA) : TI := fun σ H R => ta σ H fun vs H1 => ∃ a xs, vs = [.ref a] ∧ SqT K H1 a xs ∧ R (IteT K a) H1
theorem pi_enumT (K : PySem.W.Frag) {X : Cx} {e : Expr} {ta : TA} {p pos tpos : Pos} {elts : List Expr} {kk : Nat} (hK : X.K = K) (hg : Gl X "enumerate") (hm : X.mg "enumerate" = none) (ha : PA X [e] ta) (hs : starEach [e] X.env = [(false, eval e X.env)] := by rfl) :
    PI X (.Tuple elts kk tpos) (.Call (.Name "enumerate" p) [e] [] pos) (iEnumT K ta) := by
  subst hK
  refine ⟨fun pins s σ H R I h => ?_⟩
  refine Call_ (ld_blt I hg hm boot_enumerate (PyProof.Rows.callWith_type1 (thn (ha.run pos pins s σ H _ I h) fun us s1 ⟨vs, H1, I1, r1, q1⟩ => ?_) hs rfl))
  obtain ⟨a, xs, ex, hq, q⟩ := q1
  subst ex
  cases r1 with
  | cons r rr =>
    cases rr
    cases r
    obtain ⟨its, rv, p', hz⟩ := I1.tuple hq
    refine enum_begins1 (begins_tuple a its.toArray) p' fun h' he hit hsz hk => wpAny_pyIter_enum he ?_
    have I2 : Inv X pins σ H1 { s1 with heap := h' } := I1.kept (t' := s1.toks) hk
    refine ⟨s1.heap.objs.size + 1, [s1.heap.objs.size + 1, s1.heap.objs.size], _, _, H1, rfl, I2, turn_enumT a (s1.heap.objs.size + 1) s1.heap.objs.size, ⟨⟨.none, he⟩, ⟨_, hit, rfl, rfl⟩, Nat.succ_ne_self _⟩, fun b hb => ?_, q⟩
    have e' : b = s1.heap.objs.size + 1 ∨ b = s1.heap.objs.size := by simpa using hb
    have hle : s1.heap.objs.size ≤ b := by
      rcases e' with z | z
      · rw [z]; exact Nat.le_add_right _ _
      · rw [z]; exact Nat.le_refl _
    exact I1.fpOk hle (I1.hok.fresh hle)
theorem piEnLK (K : PySem.W.Frag) {X : Cx} {e : Expr} {ta : TA} {p pos tpos : Pos} {elts : List Expr} {kk : Nat} (hK : X.K = K) (hg : Gl X "enumerate") (hm : X.mg "enumerate" = none) (ha : PA X [e] ta) (hs : starEach [e] X.env = [(false, eval e X.env)] := by rfl) :
    PI X (.Tuple elts kk tpos) (.Call (.Name "enumerate" p) [e] [] pos) (iEnum K ta) := by
  subst hK
  exact pi_enum hg hm ha hs
end Fw

/-! a star parameter of a def that may raise; calls in a try's body -/
namespace Fw
open PySem PySem.Spec PyProof.Rows L2
/-- an exception's way out, the star tuple forgotten -/
theorem cx_star {P : Program} {w : World} {outer : List Env} {H : Hp} {s : Shared} {rest : List V} {o : Obj} {E : XK} {u : Value} {s' : Shared} (hn : H s.heap.objs.size = none)
    (kp : ∀ b o1, s.heap.get? b = some o1 → (s.heap.push o).get? b = some o1) (c : L2N.CX P w outer (upd H s.heap.objs.size (.tup rest)) { s with heap := s.heap.push o } E u s') : L2N.CX P w outer H s E u s' := by
  obtain ⟨a, B, H', cls, d, rfl, fl, hok, ub, na, os, ag, hE⟩ := c
  have ne : ∀ {b o1}, s.heap.get? b = some o1 → b ≠ s.heap.objs.size := fun e => Nat.ne_of_lt (Heap.lt_size e)
  have nh : ∀ {b : Addr} {o1 : HO}, H b = some o1 → b ≠ s.heap.objs.size := fun e z => by rw [z, hn] at e; cases e
  exact ⟨a, B, H', cls, d, rfl, fl, hok, ⟨fun b o1 e n f => ub.keep b o1 (kp b o1 e) (by rw [upd_ne (ne e)]; exact n) f, fun b o1 e f => ub.slot b o1 (kp b o1 e) f, fun b o1 e n => ub.free b o1 (kp b o1 e) (by rw [upd_ne (ne e)]; exact n), fun b o1 e f => ub.there b o1 (kp b o1 e) f, fun b xs e => ub.tups b xs (by rw [upd_ne (nh e)]; exact e), fun b o1 xs e => ub.frzs b o1 xs (by rw [upd_ne (nh e)]; exact e), fun b ps e => ub.tbls b ps (by rw [upd_ne (nh e)]; exact e)⟩, na, os, ag, hE⟩
/-- a def f(a, .., *r), its body may raise -/
theorem fn_starX {P : Program} {w : World} {K : PySem.W.Frag} {mg : Str → Option Value} {base : Heap} {k : Nat} {f : Addr} {name qual : Str} {params : Arguments} {body : List Stmt} {scope : Scope} {dV kV doc pm cdv ct oc : Value} {an od : Option Addr}
    {osl : Array (Option Value)} {N ps0 : List Str} {pv : Str} {nmax : Nat} {sp : Sp} (lk : K.lookup f = some ⟨oc, od, .func (PySem.W.fnOf name qual params body scope dV kV doc pm an cdv ct), osl⟩) (hcd : PySem.W.codeIn K cdv qual = true) (S : FnScope N (ps0 ++ [pv]) scope)
    (hz : nmax ≤ sizeLine) (hb : ∀ (us rest : List Value), us.length = ps0.length → rest.length ≤ nmax → bindArgs (PySem.W.fnOf name qual params body scope dV kV doc pm an cdv ct) ⟨us ++ rest, []⟩ = (newTuple rest >>= fun t => pure ((ps0 ++ [pv]).zip (us ++ [t]))))
    (hbody : ∀ (A : Around) (outer : List Env) (s : Shared) (H : Hp) (vs : List V) (Q : VK) (E : XK), Room k (A.deeper (envOfC qual scope s.heap.objs.size f cdv)) → sp vs H Q E →
      ∃ t, PSs (cxOf (L2N.CX P w) P w K mg base N qual scope f cdv A outer s H E) body t ∧ t { nx := fun _ H' => Q .non H', rt := Q } (start N vs) H) :
    FnR P w K mg base (L2N.CX P w) (k + 1) f (fun vs H Q E => ∃ v0 rest, vs = v0 ++ rest ∧ v0.length = ps0.length ∧ rest.length ≤ nmax ∧ ∀ p, H p = none → sp (v0 ++ [.ref p]) (upd H p (.tup rest)) Q E) := by
  intro A outer s H us vs Q E hr e0 r hsp
  obtain ⟨v0, rest, ev, h0, hl, hq⟩ := hsp
  subst ev
  obtain ⟨u0, ur, eu, rv, rr⟩ : ∃ u0 ur, us = u0 ++ ur ∧ Vals v0 u0 ∧ Vals rest ur := by
    clear hq hl h0
    induction v0 generalizing us with
    | nil => exact ⟨[], us, rfl, .nil, r⟩
    | cons x xs ih =>
      cases r with
      | cons a b =>
        obtain ⟨u0, ur, e, c, d⟩ := ih _ b
        subst e
        exact ⟨_ :: u0, ur, rfl, .cons a c, d⟩
  subst eu
  have hl' : ur.length ≤ nmax := by rw [← rr.length]; exact hl
  have h0' : u0.length = ps0.length := by rw [← rv.length]; exact h0
  have KX : K.In s.heap := e0.mod.kin.keeps fun b o e => (e0.bs b o e).1
  have hn : H s.heap.objs.size = none := e0.hok.fresh (Nat.le_refl _)
  have hp := hq s.heap.objs.size hn
  have kp : ∀ b o, s.heap.get? b = some o → (s.heap.push ({ cls := .type "tuple", data := .seq ur.toArray } : Obj)).get? b = some o := fun b o e => Heap.get?_push_of_some _ e
  have new : ObjOk P w (upd H s.heap.objs.size (.tup rest)) (s.heap.push ({ cls := .type "tuple", data := .seq ur.toArray } : Obj)) s.heap.objs.size (.tup rest) :=
    ⟨Nat.le_trans hl hz, ur, rr, ⟨_, Heap.get?_push_size _ rfl, rfl, _, rfl⟩⟩
  have hok2 := e0.hok.laid kp (Nat.le_refl _) new
  have un : Un (frs outer) [] H (upd H s.heap.objs.size (.tup rest)) s.heap (s.heap.push ({ cls := .type "tuple", data := .seq ur.toArray } : Obj)) := Un.laid kp (Nat.le_refl _) hn
  have e2 : Env0 P w K mg base A outer { s with heap := s.heap.push ({ cls := .type "tuple", data := .seq ur.toArray } : Obj) } (upd H s.heap.objs.size (.tup rest)) := by
    refine ⟨e0.frames, e0.mod, fun b o e => ⟨kp b o (e0.bs b o e).1, ?_⟩, ?_, Heap.FunFrames.of_keeps (fun b o e _ => ⟨o, kp b o e, rfl⟩) e0.funs, fun b hb' => ?_, hok2, e0.bare⟩
    · rw [upd_ne (Nat.ne_of_lt (Heap.lt_size (e0.bs b o e).1))]
      exact (e0.bs b o e).2
    · show base.objs.size ≤ (s.heap.push _).objs.size
      rw [Heap.size_push]
      exact Nat.le_succ_of_le e0.bsz
    · obtain ⟨_, o, ho, _⟩ := e0.funs.mem hb'
      rw [upd_ne (Nat.ne_of_lt (Heap.lt_size ho))]
      exact e0.frf b hb'
  have lim : (s.heap.push ({ cls := .type "tuple", data := .seq ur.toArray } : Obj)).NoLimit := e0.mod.nolimit.keeps fun b o e => (e2.bs b o e).1
  have hkind : ∀ y ∈ (ps0 ++ [pv]).zip (u0 ++ [Value.ref s.heap.objs.size]), scope.names.lookup y.1 = some .local ∨
      (scope.names.lookup y.1 = some .cell ∧ ((cellsFrom ((s.heap.push ({ cls := .type "tuple", data := .seq ur.toArray } : Obj)).objs.size + 1) scope.names []).lookup y.1).isSome = true) := fun y hy => by
    rcases S.par y.1 (List.of_mem_zip hy).1 with q | q
    · exact .inl q
    · exact .inr ⟨q, PySem.W.cellsFrom_some _ _ _ (.inl q)⟩
  refine codeAny_call_function hr.depth (KX _ _ lk) rfl S.co S.gen rfl (PySem.W.codeRec_of KX hcd) ?_
  rw [hb u0 ur h0' hl']
  refine wpAny_bind (wpAny_newTuple (wpAny_pure ?_) (Nat.le_trans hl' hz))
  refine wpAny_newFunctionEnv_cells (s := { s with heap := s.heap.push ({ cls := .type "tuple", data := .seq ur.toArray } : Obj) }) S.kind hkind fun env he s1 x => ?_
  subst he
  refine ⟨lim.keeps x.toInCall.keep, codeAny_func ?_⟩
  obtain ⟨t, ht, hq'⟩ := hbody A outer { s with heap := s.heap.push ({ cls := .type "tuple", data := .seq ur.toArray } : Obj) } (upd H s.heap.objs.size (.tup rest)) (v0 ++ [.ref s.heap.objs.size]) Q E (hr.deeper _) hp
  have r2 : Vals (v0 ++ [V.ref s.heap.objs.size]) (u0 ++ [Value.ref s.heap.objs.size]) := rv.append (.cons rfl .nil)
  have I : Inv (cxOf (L2N.CX P w) P w K mg base N qual scope f cdv A outer { s with heap := s.heap.push ({ cls := .type "tuple", data := .seq ur.toArray } : Obj) } (upd H s.heap.objs.size (.tup rest)) E) [] (start N (v0 ++ [.ref s.heap.objs.size])) (upd H s.heap.objs.size (.tup rest)) s1 :=
    inv_start S hr.hd e2 (by rw [List.length_append, List.length_append, h0]; rfl) r2 x
  refine wpAny_mono (ht.run [] s1 _ _ _ I hq') (fun fl s' hs => ?_) fun e s' hs => ?_
  · have fin : ∀ {σ' : L2.St} {H' : Hp} {v' : V} {u' : Value}, Inv (cxOf (L2N.CX P w) P w K mg base N qual scope f cdv A outer { s with heap := s.heap.push ({ cls := .type "tuple", data := .seq ur.toArray } : Obj) } (upd H s.heap.objs.size (.tup rest)) E) [] σ' H' s' → RelV v' u' → Q v' H' →
        CE outer P w H s Q u' s' := fun {σ' H' v' u'} J rv' q => ⟨v', H', J.os, J.bare, un.trans J.base, J.hok, rv', q⟩
    cases fl with
    | ret u' =>
      obtain ⟨v', σ', H', J, rv', q⟩ := hs
      exact fin J rv' q
    | next =>
      obtain ⟨σ', H', J, q⟩ := hs
      exact fin (v' := V.non) (u' := Value.none) J rfl q
    | brk =>
      obtain ⟨_, _, _, q⟩ := hs
      exact False.elim q
    | cont =>
      obtain ⟨_, _, _, q⟩ := hs
      exact False.elim q
  · exact wpAny_mono hs (fun _ s'' z => cx_star hn kp z) fun e' s'' z => cx_star hn kp z
def OkVX (P : Program) (w : World) (K : PySem.W.Frag) (mg : Str → Option Value) (base : Heap) (k : Nat) (f : Addr) (sp : Sp) : Prop := FnR P w K mg base (L2N.CX P w) k f sp ∧ PySem.W.keepIn K (.ref f) = true
theorem okVX {P : Program} {w : World} {K : PySem.W.Frag} {mg : Str → Option Value} {base : Heap} {x qual : Str} {st : Stmt} {f : Addr} {N ps0 : List Str} {pv : Str} {k nmax : Nat} {sp : Sp} (F : FnIs K x qual st f) (S : FnScope N (ps0 ++ [pv]) (defScope st)) (hz : nmax ≤ sizeLine)
    (hb : ∀ (kV doc pm : Value) (an : Option Addr) (cdv ct : Value) (us rest : List Value), us.length = ps0.length → bindArgs (PySem.W.fnOf x qual (defArgs st) (defBody st) (defScope st) .none kV doc pm an cdv ct) ⟨us ++ rest, []⟩ = (newTuple rest >>= fun t => pure ((ps0 ++ [pv]).zip (us ++ [t]))))
    (hbody : ∀ (cdv : Value) (A : Around) (outer : List Env) (s : Shared) (H : Hp) (vs : List V) (Q : VK) (E : XK), Room k (A.deeper (envOfC qual (defScope st) s.heap.objs.size f cdv)) → sp vs H Q E →
      ∃ t, PSs (cxOf (L2N.CX P w) P w K mg base N qual (defScope st) f cdv A outer s H E) (defBody st) t ∧ t { nx := fun _ H' => Q .non H', rt := Q } (start N vs) H) :
    OkVX P w K mg base (k + 1) f (fun vs H Q E => ∃ v0 rest, vs = v0 ++ rest ∧ v0.length = ps0.length ∧ rest.length ≤ nmax ∧ ∀ p, H p = none → sp (v0 ++ [.ref p]) (upd H p (.tup rest)) Q E) := by
  obtain ⟨fd, F⟩ := F
  obtain ⟨oc, od, dV, kV, doc, pm, an, cdv, ct, osl, e, lk, hcd, hd, _⟩ := F.ex
  have hdn : dV = .none := by
    rcases hd with ⟨_, e2⟩ | ⟨e2, _⟩
    · exact e2
    · exact absurd rfl e2
  subst hdn
  subst e
  exact ⟨fn_starX lk hcd S hz (fun us rest h0 _ => hb kV doc pm an cdv ct us rest h0) fun A outer s H vs Q E hr hsp => by
    obtain ⟨t, h, q⟩ := hbody cdv A outer s H vs Q E hr hsp
    exact ⟨t, h, q⟩, F.kp⟩
section
variable {X : Cx} {k : Nat} {C g : Addr} {sp : Sp} {E : XK} {x : Str} {e : Expr} {es : List Expr} {t : TA} {pos q : Pos}
theorem pe_makeVX (M : Mk X.K C g) (F : OkVX X.prog X.w X.K X.mg X.base k g sp) (hr : Room (k + 1) X.A) (hg : Gl X x) (hm : X.mg x = some (.ref C)) (hx : Passes (L2N.CX X.prog X.w) X E) (ha : PA X (e :: es) t) (hdb : (x == ("__debug__" : Str)) = false := by decide)
    (he : starEach (e :: es) X.env = (false, eval e X.env) :: starEach es X.env := by rfl) (hpl : (backTo pos (starEach es X.env)).any (·.1) = false := by rfl) : PE X (.Call (.Name x q) (e :: es) [] pos) (StX.tMakeR C sp E t) :=
  StX.pe_makeR M F.1 hr hg hm hx ha hdb he hpl
theorem pe_makeVX0 (M : Mk X.K C g) (F : OkVX X.prog X.w X.K X.mg X.base k g sp) (hr : Room (k + 1) X.A) (hg : Gl X x) (hm : X.mg x = some (.ref C)) (hx : Passes (L2N.CX X.prog X.w) X E) (hdb : (x == ("__debug__" : Str)) = false := by decide) : PE X (.Call (.Name x q) [] [] pos) (StX.tMakeR C sp E tNil) := by
  refine ⟨fun pins s σ H Q I h => ?_⟩
  refine wpAny_Call_Name_kw (ld_glob I hg hm ?_ hdb)
  exact PySem.W.callWith_K0 I.kIn M.kp (StX.run_makeR (us := []) M F.1 hr hx I .nil h)
end
/-! ### f(..) in a try's body -/
def tCallS (sp : Sp) (dvs : List V) (E : L2.St → XK) (t : TA) : TE := fun σ H Q => t σ H fun vs H1 => sp (vs ++ dvs) H1 Q (E σ)
section
variable {X : Cx} {CY : CXT} {k : Nat} {f : Addr} {ps : List Str} {sp : Sp} {E : L2.St → XK} {x : Str} {e : Expr} {es : List Expr} {t : TA} {ta : TE} {p pos : Pos}
theorem pe_callS (F : Ok X.prog X.w X.K X.mg X.base CY k f ps sp) (hr : Room k X.A) (hg : Gl X x) (hm : X.mg x = some (.ref f)) (hx : ∀ σ, PassesAt CY X σ (E σ)) (ha : PA X (e :: es) t) (hdb : (x == ("__debug__" : Str)) = false := by decide)
    (he : starEach (e :: es) X.env = (false, eval e X.env) :: starEach es X.env := by rfl) (hpl : (backTo pos (starEach es X.env)).any (·.1) = false := by rfl) :
    PE X (.Call (.Name x p) (e :: es) [] pos) (tCallS sp [] E t) := by
  obtain ⟨fd, F, hb, hk, _⟩ := F
  refine ⟨fun pins s σ H Q I h => wpAny_Call_Name_kw (ld_glob I hg hm ?_ hdb)⟩
  refine PySem.W.callWith_K (first := []) (h₀ := X.base) I.ok.mod.kin hk (thn (ha.run pos pins s σ H _ I h) fun us s1 hh => ?_) he hpl
  obtain ⟨vs, H1, I1, r, q⟩ := hh
  rw [List.append_nil] at q
  exact ⟨I1.kIn, run_fnS (us := us) (vs := vs) F hr hb (hx σ) I1 r q⟩
end
section
variable {K : PySem.W.Frag} {S : Dst} {σ : L2.St} {H : Hp} {tas : TA} {ta : TE} {P : V → Hp → Prop} {vs : List V} {sp : Sp} {E : L2.St → XK} {C a : Addr} {fs : List (Str × V)} {m : Str}
theorem ex_callS {dvs : List V} (h : EvA K S tas σ H vs) (k : SpX K S sp (vs ++ dvs) H (E σ) P) : EvX K S (tCallS sp dvs E tas) σ H P := fun H1 e Q q =>
  h H1 e _ fun H2 e2 => k H2 (e.trans e2) Q fun z H3 e3 p => q z H3 (e2.trans e3) p
theorem ex_methS (ho : Ev K S ta σ H (.ref a)) (ia : IA S H a C fs) (l : fs.lookup m = none) (h : EvA K S tas σ H vs) (k : SpX K S sp (.ref a :: vs) H (E σ) P) : EvX K S (tMethS C m sp E ta tas) σ H P := fun H1 e Q q => ho H1 e _ fun H2 e2 => by
  obtain ⟨⟨dx, q2⟩, _⟩ := ia.mono (e.trans e2)
  exact ⟨a, dx, fs, rfl, q2, l, h H2 (e.trans e2) _ fun H3 e3 => k H3 ((e.trans e2).trans e3) Q fun z H4 e4 p => q z H4 ((e2.trans e3).trans e4) p⟩
/-- the handler takes what is raised -/
theorem wE_yes {c : Value} {i : Nat} {ts : Addr → Value → Option Addr → TS} {Wout : WX} {D : Ends} {cls : Value} {d : Option Addr} (h1 : PySem.W.exmOne K cls c = some true)
    (h2 : ∀ x, H x = none → St K S (ts x cls d) { nx := fun σ' H' => D.nx (σ'.set i none) H', rt := D.rt, bk := fun σ' H' => D.bk (σ'.set i none) H', ct := fun σ' H' => D.ct (σ'.set i none) H' } (σ.set i (some (.ref x))) H) (e : Lx S H H) : WE (wAs K c i ts Wout D) σ cls d H :=
  ⟨true, h1, fun _ x hx => h2 x hx H e, fun z => by cases z⟩
end
/-! ### loops over enumerate -/
section
variable {K : PySem.W.Frag} {S : Dst} {σ : L2.St} {H : Hp} {te : TE} {D : Ends} {tu tz : TS} {a : Addr} {xs : List V} {i j : Nat}
theorem for_enumT {g : TG} (Pv : Nat → L2.St → Hp → Prop) (h0 : Pv 0 σ H) (hl : ∀ i σ H, i ≤ xs.length → Pv i σ H → SqT K H a xs)
    (hs : ∀ (i : Nat) x σ H T, xs[i]? = some x → Pv i σ H → H T = none → g (.ref T) σ (upd H T (.tup [.int (i : Int), x])) fun σ2 H2 => tu { D with nx := Pv (i + 1), ct := Pv (i + 1), bk := D.nx } σ2 H2) (hd : ∀ σ H, Pv xs.length σ H → D.nx σ H) :
    ∃ W : Nat → Nat → L2.St → Hp → Prop, (∃ m, W 0 m σ H) ∧ ∀ i m σ H, W i m σ H →
      ((IteT K a).stop i H ∧ D.nx σ H) ∨ ((IteT K a).go i H ∧ ∃ N : L2.St → Hp → Prop, (∀ σ' H', N σ' H' → ∃ m', m' < m ∧ W (i + 1) m' σ' H') ∧ ∀ x H', (IteT K a).yld i H x H' → g x σ H' fun σ2 H2 => tu { D with nx := N, ct := N, bk := D.nx } σ2 H2) := by
  refine ⟨fun i m σ H => m = xs.length - i ∧ i ≤ xs.length ∧ Pv i σ H, ⟨xs.length, by simp, Nat.zero_le _, h0⟩, ?_⟩
  rintro i m σ H ⟨rfl, hi, p⟩
  have q := hl i σ H hi p
  by_cases hlt : i < xs.length
  · refine .inr ⟨⟨xs, xs[i], q, by simp [hlt]⟩, Pv (i + 1), fun σ' H' p' => ⟨xs.length - (i + 1), by omega, rfl, hlt, p'⟩, fun x H' y => ?_⟩
    obtain ⟨T, x, rfl, e1, e2, y⟩ := y
    subst e2
    exact hs i x σ _ T (y xs q) p e1
  · have e : i = xs.length := by omega
    subst e
    exact .inl ⟨⟨xs, q, Nat.le_refl _⟩, hd σ H p⟩
theorem for_enumL {g : TG} (Pv : Nat → L2.St → Hp → Prop) (h0 : Pv 0 σ H) (hl : ∀ i σ H, i ≤ xs.length → Pv i σ H → SqL K H a xs)
    (hs : ∀ (i : Nat) x σ H T, xs[i]? = some x → Pv i σ H → H T = none → g (.ref T) σ (upd H T (.tup [.int (i : Int), x])) fun σ2 H2 => tu { D with nx := Pv (i + 1), ct := Pv (i + 1), bk := D.nx } σ2 H2) (hd : ∀ σ H, Pv xs.length σ H → D.nx σ H) :
    ∃ W : Nat → Nat → L2.St → Hp → Prop, (∃ m, W 0 m σ H) ∧ ∀ i m σ H, W i m σ H →
      ((Ite K a).stop i H ∧ D.nx σ H) ∨ ((Ite K a).go i H ∧ ∃ N : L2.St → Hp → Prop, (∀ σ' H', N σ' H' → ∃ m', m' < m ∧ W (i + 1) m' σ' H') ∧ ∀ x H', (Ite K a).yld i H x H' → g x σ H' fun σ2 H2 => tu { D with nx := N, ct := N, bk := D.nx } σ2 H2) := by
  refine ⟨fun i m σ H => m = xs.length - i ∧ i ≤ xs.length ∧ Pv i σ H, ⟨xs.length, by simp, Nat.zero_le _, h0⟩, ?_⟩
  rintro i m σ H ⟨rfl, hi, p⟩
  have q := hl i σ H hi p
  by_cases hlt : i < xs.length
  · refine .inr ⟨⟨xs, xs[i], q, by simp [hlt]⟩, Pv (i + 1), fun σ' H' p' => ⟨xs.length - (i + 1), by omega, rfl, hlt, p'⟩, fun x H' y => ?_⟩
    obtain ⟨T, x, rfl, e1, e2, y⟩ := y
    subst e2
    exact hs i x σ _ T (y xs q) p e1
  · have e : i = xs.length := by omega
    subst e
    exact .inl ⟨⟨xs, q, Nat.le_refl _⟩, hd σ H p⟩
/-- for i, x in enumerate(t), nothing drawn -/
theorem s_forET (h : Ev K none te σ H (.ref a)) (hx : UA K none H a xs) (Pv : Nat → L2.St → Hp → Prop) (h0 : ∀ H1, Lx none H H1 → Pv 0 σ H1) (hl : ∀ i σ' H', i ≤ xs.length → Pv i σ' H' → UA K none H' a xs) (ij : i ≠ j)
    (hs : ∀ (m : Nat) x σ' H' H2, xs[m]? = some x → Pv m σ' H' → Lx none H' H2 → St K none tu { D with nx := Pv (m + 1), ct := Pv (m + 1), bk := tz D } ((σ'.set i (some (.int (m : Int)))).set j (some x)) H2) (hd : ∀ σ' H', Pv xs.length σ' H' → St K none tz D σ' H') :
    St K none (tSeq (tFor (iEnumT K (tCons te tNil)) (gTup K 2 (gCons (gName i) (gCons (gName j) gNil))) tu) tz) D σ H := fun H1 e => h H1 e _ fun H2 e2 =>
  ⟨a, xs, rfl, (hx.mono (e.trans e2)).q, for_enumT (D := { D with nx := tz D }) Pv (h0 H2 (e.trans e2)) (fun m σ' H' hi p => (hl m σ' H' hi p).q) (fun m x σ' H' T hi p hT => ⟨T, _, rfl, SqT.of upd_same, rfl, ⟨_, _, rfl, ⟨_, _, rfl, ⟨rfl, hs m x σ' H' _ hi p (Lx.rfl0.new hT) _ Lx.rfl0⟩⟩⟩⟩) fun σ' H' p => hd σ' H' p H' Lx.rfl0⟩
theorem s_forEL1 (h : Ev K none te σ H (.ref a)) (hx : LA K none H a xs) (Pv : Nat → L2.St → Hp → Prop) (h0 : ∀ H1, Lx none H H1 → Pv 0 σ H1) (hl : ∀ i σ' H', i ≤ xs.length → Pv i σ' H' → LA K none H' a xs) (ij : i ≠ j)
    (hs : ∀ (m : Nat) x σ' H' H2, xs[m]? = some x → Pv m σ' H' → Lx none H' H2 → St K none tu { D with nx := Pv (m + 1), ct := Pv (m + 1), bk := D.nx } ((σ'.set i (some (.int (m : Int)))).set j (some x)) H2) (hd : ∀ σ' H', Pv xs.length σ' H' → D.nx σ' H') :
    St K none (tFor (iEnum K (tCons te tNil)) (gTup K 2 (gCons (gName i) (gCons (gName j) gNil))) tu) D σ H := fun H1 e => h H1 e _ fun H2 e2 =>
  ⟨a, xs, rfl, (hx.mono (e.trans e2)).q, for_enumL Pv (h0 H2 (e.trans e2)) (fun m σ' H' hi p => (hl m σ' H' hi p).q) (fun m x σ' H' T hi p hT => ⟨T, _, rfl, SqT.of upd_same, rfl, ⟨_, _, rfl, ⟨_, _, rfl, ⟨rfl, hs m x σ' H' _ hi p (Lx.rfl0.new hT) _ Lx.rfl0⟩⟩⟩⟩) hd⟩
end
end Fw
namespace Fw
open PySem PySem.Spec PyProof.Rows L2
theorem s_dropX1 {K : PySem.W.Frag} {S : Dst} {σ : L2.St} {H : Hp} {te : TE} {P : V → Hp → Prop} {D : Ends} (h : EvX K S te σ H P) (k : ∀ v H1, Lx S H H1 → P v H1 → D.nx σ H1) : St K S (tDrop te) D σ H := fun H1 e => h H1 e _ fun v H2 e2 p => k v H2 (e.trans e2) p
end Fw
namespace Fw
open PySem PySem.Spec PyProof.Rows L2
section
variable {K : PySem.W.Frag} {S : Dst} {σ : L2.St} {H : Hp} {D : Ends} {t u : TT} {tu tw tz : TS} {b : Bool} {tas : TA} {tb : TE} {vs : List V}
theorem s_seqK (M : L2.St → Hp → Prop) (k : ∀ σ' H', M σ' H' → tz D σ' H') (h : (∀ σ' H', M σ' H' → tz D σ' H') → St K S tu { D with nx := tz D } σ H) : St K S (tSeq tu tz) D σ H := h k
theorem s_ifAnd (h1 : EvT K S t σ H b) (h2 : b = true → ∀ H1, Lx S H H1 → u σ H1 (fun c H2 => if c = true then tu D σ H2 else tw D σ H2)) (h3 : b = false → ∀ H1, Lx S H H1 → tw D σ H1) : St K S (tIfS (tAnd t u) tu tw) D σ H := fun H1 e => h1 H1 e _ fun H2 e2 => by
  cases b with
  | true =>
    show u σ H2 _
    exact h2 rfl H2 (e.trans e2)
  | false => exact h3 rfl H2 (e.trans e2)
/-- f(..) != e, where f changes the heap -/
theorem tt_neCall {sp : Sp} {dvs : List V} {E : XK} {Q : Bool → Hp → Prop} {H1 : Hp} (e : Lx S H H1) (h : EvA K S tas σ H vs) (k : ∀ H2, Lx S H H2 → sp (vs ++ dvs) H2 (fun x H3 => tb σ H3 fun y H4 => rNe x y H4 fun v H5 => ∃ c, v = .bl c ∧ Q c H5) E) : (tTest (tOp rNe (tCall sp dvs E tas) tb)) σ H1 Q :=
  h H1 e _ fun H2 e2 => k H2 (e.trans e2)
/-- return f(..), where f changes the heap -/
theorem s_retSp {sp : Sp} {dvs : List V} {E : XK} {PA : List V → Hp → Prop} (h : EvAX K S tas σ H PA) (k : ∀ vs H1, Lx S H H1 → PA vs H1 → sp (vs ++ dvs) H1 D.rt E) : St K S (tRet (tCall sp dvs E tas)) D σ H := fun H1 e => h H1 e _ fun vs H2 e2 p => k vs H2 (e.trans e2) p
end
end Fw

namespace Fw
open PySem PySem.Spec PyProof.Rows L2
/-! ### steps by shape; the cap -/
theorem step_iff {r : Nat} {rows : List KT} (ok : ∀ k ∈ rows, k ∈ cellsOf r) (r1 : r ≤ 4) {s g : Nat} : stepB r rows s g = true ↔ ∃ (v u d : Nat) (sd : Str), s = v + u ∧ g = v + d ∧ sd ∈ sidesS u d ∧ capK r ((u : Int), (d : Int), sd) ∈ rows := by
  unfold stepB bestV
  rw [bestFrom_isSome]
  constructor
  · rintro ⟨v, hv, q⟩
    obtain ⟨sd, hs, q⟩ := (sideAt_some ok r1).mp q
    rw [List.contains_iff_mem] at q
    exact ⟨v, s - v, g - v, sd, by omega, by omega, hs, q⟩
  · rintro ⟨v, u, d, sd, rfl, rfl, hs, q⟩
    refine ⟨v, by omega, (sideAt_some ok r1).mpr ⟨sd, ?_⟩⟩
    have e1 : v + u - v = u := by omega
    have e2 : v + d - v = d := by omega
    rw [e1, e2, List.contains_iff_mem]
    exact ⟨hs, q⟩
/-- one shape: the same capped counts, the same sides -/
theorem shape_cap {r : Nat} (r0 : 1 ≤ r) {u d u' d' : Nat} {sd : Str} {rows : List KT} (hu : u = u' ∨ (r ≤ u ∧ r ≤ u')) (hd : d = d' ∨ (r ≤ d ∧ r ≤ d')) (hs : sd ∈ sidesS u d) (hk : capK r ((u : Int), (d : Int), sd) ∈ rows) : sd ∈ sidesS u' d' ∧ capK r ((u' : Int), (d' : Int), sd) ∈ rows := by
  have c1 : capI (u : Int) r = capI (u' : Int) r := by unfold capI; split <;> split <;> omega
  have c2 : capI (d : Int) r = capI (d' : Int) r := by unfold capI; split <;> split <;> omega
  have z : ((u : Int) = 0 ∨ (d : Int) = 0) ↔ ((u' : Int) = 0 ∨ (d' : Int) = 0) := by omega
  unfold sidesS at *
  unfold capK at *
  dsimp only at *
  rw [← c1, ← c2]
  simp only [← z]
  exact ⟨hs, hk⟩
/-- the goals among the levels to N -/
def goalsN (N r : Nat) (rows : List KT) (s : Nat) : List Nat := (List.range (N + 1)).filter fun g => stepB r rows s g
theorem mem_goalsN {N r : Nat} {rows : List KT} {s g : Nat} : g ∈ goalsN N r rows s ↔ g ≤ N ∧ stepB r rows s g = true := by
  unfold goalsN
  rw [List.mem_filter, List.mem_range]
  constructor
  · rintro ⟨a, b⟩; exact ⟨by omega, b⟩
  · rintro ⟨a, b⟩; exact ⟨by omega, b⟩
theorem goals_N {r : Nat} {rows : List KT} : goalsOf r rows = goalsN (4 * r) r rows := rfl
section
variable {r : Nat} {rows : List KT}
theorem step_up (ok : ∀ k ∈ rows, k ∈ cellsOf r) (r1 : r ≤ 4) {s g : Nat} (c : Nat) (h : stepB r rows s g = true) : stepB r rows (s + c) (g + c) = true := by
  obtain ⟨v, u, d, sd, rfl, rfl, hs, hk⟩ := (step_iff ok r1).mp h
  exact (step_iff ok r1).mpr ⟨v + c, u, d, sd, by omega, by omega, hs, hk⟩
theorem walk_up (ok : ∀ k ∈ rows, k ∈ cellsOf r) (r1 : r ≤ 4) {N n a b : Nat} (c : Nat) (w : Wk (goalsN N r rows) a n b) : Wk (goalsN (N + c) r rows) (a + c) n (b + c) := by
  induction w with
  | nil => exact .nil
  | snoc _ hc ih =>
    obtain ⟨h1, h2⟩ := mem_goalsN.mp hc
    exact .snoc ih (mem_goalsN.mpr ⟨by omega, step_up ok r1 c h2⟩)
theorem walk_le {N n a b : Nat} (ha : a ≤ N) (w : Wk (goalsN N r rows) a n b) : b ≤ N := by
  cases w with
  | nil => exact ha
  | snoc _ hc => exact (mem_goalsN.mp hc).1
theorem walk_more {N N' n a b : Nat} (h : N ≤ N') (w : Wk (goalsN N r rows) a n b) : Wk (goalsN N' r rows) a n b :=
  w.mono fun x y hy => mem_goalsN.mpr ⟨Nat.le_trans (mem_goalsN.mp hy).1 h, (mem_goalsN.mp hy).2⟩
/-- over a high level M: without it, or by one below -/
theorem cap_local (ok : ∀ k ∈ rows, k ∈ cellsOf r) (r0 : 1 ≤ r) (r1 : r ≤ 4) {M a b : Nat} (hM : 4 * r + 1 ≤ M) (ha : a < M) (hb : b < M) (h1 : stepB r rows a M = true) (h2 : stepB r rows M b = true) :
    stepB r rows a b = true ∨ ∃ m, m < M ∧ stepB r rows a m = true ∧ stepB r rows m b = true := by
  obtain ⟨v, u, d, s1, ea, eM, hs1, k1⟩ := (step_iff ok r1).mp h1
  obtain ⟨w, u', d', s2, eM2, eb, hs2, k2⟩ := (step_iff ok r1).mp h2
  -- the two shapes in the other order
  have swap : u' ≤ a → u' ≤ v + d' → stepB r rows a b = true ∨ ∃ m, m < M ∧ stepB r rows a m = true ∧ stepB r rows m b = true := fun x y =>
    .inr ⟨a + b - M, by omega, (step_iff ok r1).mpr ⟨a - u', u', d', s2, by omega, by omega, hs2, k2⟩, (step_iff ok r1).mpr ⟨v + d' - u', u, d, s1, by omega, by omega, hs1, k1⟩⟩
  by_cases c1 : r < d
  · by_cases c2 : r < u'
    · obtain ⟨p1, p2⟩ := shape_cap r0 (u' := u) (d' := d - 1) (.inl rfl) (.inr (by omega)) hs1 k1
      obtain ⟨q1, q2⟩ := shape_cap r0 (u' := u' - 1) (d' := d') (.inr (by omega)) (.inl rfl) hs2 k2
      exact .inr ⟨M - 1, by omega, (step_iff ok r1).mpr ⟨v, u, d - 1, s1, by omega, by omega, p1, p2⟩, (step_iff ok r1).mpr ⟨w, u' - 1, d', s2, by omega, by omega, q1, q2⟩⟩
    · by_cases c3 : v + r ≤ b
      · obtain ⟨p1, p2⟩ := shape_cap r0 (u' := u) (d' := b - v) (.inl rfl) (.inr (by omega)) hs1 k1
        exact .inl ((step_iff ok r1).mpr ⟨v, u, b - v, s1, by omega, by omega, p1, p2⟩)
      · exact swap (by omega) (by omega)
  · by_cases c2 : r < u'
    · by_cases c3 : w + r ≤ a
      · obtain ⟨q1, q2⟩ := shape_cap r0 (u' := a - w) (d' := d') (.inr (by omega)) (.inl rfl) hs2 k2
        exact .inl ((step_iff ok r1).mpr ⟨w, a - w, d', s2, by omega, by omega, q1, q2⟩)
      · exact swap (by omega) (by omega)
    · exact swap (by omega) (by omega)
/-- a walk below N + 1 between levels below N goes below N, too -/
theorem cap_one (ok : ∀ k ∈ rows, k ∈ cellsOf r) (r0 : 1 ≤ r) (r1 : r ≤ 4) {N a : Nat} (hN : 4 * r ≤ N) (ha : a ≤ N) : ∀ (n b : Nat), b ≤ N → Wk (goalsN (N + 1) r rows) a n b → ∃ m, m ≤ n ∧ Wk (goalsN N r rows) a m b := by
  intro n
  induction n using Nat.strongRecOn with
  | ind n ih =>
    intro b hb w
    cases w with
    | nil => exact ⟨0, Nat.le_refl _, .nil⟩
    | @snoc k y _ w1 hc =>
      obtain ⟨_, st⟩ := mem_goalsN.mp hc
      by_cases hy : y ≤ N
      · obtain ⟨m, hm, w2⟩ := ih k (by omega) y hy w1
        exact ⟨m + 1, by omega, .snoc w2 (mem_goalsN.mpr ⟨hb, st⟩)⟩
      · cases w1 with
        | nil => omega
        | @snoc k x _ w2 hc2 =>
          obtain ⟨yl, st2⟩ := mem_goalsN.mp hc2
          have ey : y = N + 1 := by omega
          subst ey
          by_cases hx : x ≤ N
          · obtain ⟨m, hm, w3⟩ := ih k (by omega) x hx w2
            rcases cap_local ok r0 r1 (by omega) (Nat.lt_succ_of_le hx) (Nat.lt_succ_of_le hb) st2 st with h | ⟨z, hz, z1, z2⟩
            · exact ⟨m + 1, by omega, .snoc w3 (mem_goalsN.mpr ⟨hb, h⟩)⟩
            · exact ⟨m + 1 + 1, by omega, .snoc (.snoc w3 (mem_goalsN.mpr ⟨by omega, z1⟩)) (mem_goalsN.mpr ⟨hb, z2⟩)⟩
          · have ex : x = N + 1 := by
              have := walk_le (r := r) (rows := rows) (N := N + 1) (by omega) w2
              omega
            subst ex
            obtain ⟨m, hm, w3⟩ := ih (k + 1) (by omega) b hb (.snoc w2 hc)
            exact ⟨m, by omega, w3⟩
/-- .. below any N -/
theorem cap_walk (ok : ∀ k ∈ rows, k ∈ cellsOf r) (r0 : 1 ≤ r) (r1 : r ≤ 4) {a b : Nat} (ha : a ≤ 4 * r) (hb : b ≤ 4 * r) : ∀ (c n : Nat), Wk (goalsN (4 * r + c) r rows) a n b → ∃ m, m ≤ n ∧ Wk (goalsOf r rows) a m b
  | 0, n, w => ⟨n, Nat.le_refl _, w⟩
  | c + 1, n, w => by
    obtain ⟨m, hm, w2⟩ := cap_one ok r0 r1 (N := 4 * r + c) (by omega) (by omega) n b (by omega) w
    obtain ⟨m2, h2, w3⟩ := cap_walk ok r0 r1 ha hb c m w2
    exact ⟨m2, by omega, w3⟩
end
end Fw

namespace Fw
open PySem PySem.Spec PyProof.Rows L2
/-! ### walks over all levels -/
inductive Ws (E : Nat → Nat → Prop) : Nat → Nat → Nat → Prop
  | nil {a : Nat} : Ws E 0 a a
  | cons {a b c n : Nat} : E a b → Ws E n b c → Ws E (n + 1) a c
section
variable {E E' : Nat → Nat → Prop} {a b c n m : Nat}
theorem Ws.snoc (w : Ws E n a b) (h : E b c) : Ws E (n + 1) a c := by
  induction w with
  | nil => exact .cons h .nil
  | cons x _ ih => exact .cons x (ih h)
theorem Ws.trans (w : Ws E n a b) (w2 : Ws E m b c) : Ws E (n + m) a c := by
  induction w with
  | nil => rw [Nat.zero_add]; exact w2
  | @cons _ _ _ n x _ ih => rw [show n + 1 + m = n + m + 1 by omega]; exact .cons x (ih w2)
theorem Ws.rev (w : Ws E n a b) : Ws (fun x y => E y x) n b a := by
  induction w with
  | nil => exact .nil
  | cons x _ ih => exact ih.snoc x
theorem Ws.imp (i : ∀ x y, E x y → E' x y) (w : Ws E n a b) : Ws E' n a b := by
  induction w with
  | nil => exact .nil
  | cons x _ ih => exact .cons (i _ _ x) ih
theorem Ws.last (w : Ws E (n + 1) a b) : ∃ x, Ws E n a x ∧ E x b := by
  have h := w.rev
  cases h with
  | @cons _ x _ _ h1 h2 => exact ⟨x, h2.rev, h1⟩
end
/-- a step from a high level: one lower by itself, or both lower -/
def Low (r : Nat) (E : Nat → Nat → Prop) : Prop := ∀ h k, r < h → E h k → E (h - 1) k ∨ (E (h - 1) (k - 1) ∧ h ≤ k + r)
section
variable {E : Nat → Nat → Prop} {r : Nat}
theorem low1 (P : Low r E) {n p q : Nat} (w : Ws E n p q) (hp : 2 * r < p) : (∃ p' n', r ≤ p' ∧ (n' < n ∨ n' = n ∧ p' < p) ∧ Ws E n' p' q) ∨ (Ws E n (p - 1) (q - 1) ∧ 2 * r < q) := by
  induction w with
  | nil => exact .inr ⟨.nil, hp⟩
  | @cons a b c n x w ih =>
    rcases P a b (by omega) x with h | ⟨h, hb⟩
    · exact .inl ⟨a - 1, n + 1, by omega, .inr ⟨rfl, by omega⟩, .cons h w⟩
    · by_cases l : b ≤ 2 * r
      · exact .inl ⟨b, n, by omega, .inl (by omega), w⟩
      · rcases ih (by omega) with ⟨p', n', h1, h2, h3⟩ | ⟨h1, h2⟩
        · exact .inl ⟨p', n', h1, .inl (by omega), h3⟩
        · exact .inr ⟨.cons h h1, h2⟩
theorem low2 (P : Low r E) : ∀ (n p q : Nat), Ws E n p q → ∃ p' q' n', n' ≤ n ∧ Ws E n' p' q' ∧ p' ≤ 2 * r ∧ (p' = p ∨ (r ≤ p ∧ r ≤ p')) ∧ (q' = q ∨ (2 * r < q ∧ 2 * r ≤ q')) := by
  intro n
  induction n using Nat.strongRecOn with
  | ind n ihn =>
    intro p
    induction p using Nat.strongRecOn with
    | ind p ihp =>
      intro q w
      by_cases hp : p ≤ 2 * r
      · exact ⟨p, q, n, Nat.le_refl _, w, hp, .inl rfl, .inl rfl⟩
      · have fin : ∀ {p1 q1 n1 : Nat}, r ≤ p1 → n1 ≤ n → (q1 = q ∨ (2 * r < q ∧ 2 * r ≤ q1)) → (∃ p' q' n', n' ≤ n1 ∧ Ws E n' p' q' ∧ p' ≤ 2 * r ∧ (p' = p1 ∨ (r ≤ p1 ∧ r ≤ p')) ∧ (q' = q1 ∨ (2 * r < q1 ∧ 2 * r ≤ q'))) →
            ∃ p' q' n', n' ≤ n ∧ Ws E n' p' q' ∧ p' ≤ 2 * r ∧ (p' = p ∨ (r ≤ p ∧ r ≤ p')) ∧ (q' = q ∨ (2 * r < q ∧ 2 * r ≤ q')) := by
          rintro p1 q1 n1 h1 h2 hq ⟨p', q', n', a, b, c, d, e⟩
          refine ⟨p', q', n', by omega, b, c, .inr ⟨by omega, ?_⟩, ?_⟩
          · rcases d with rfl | ⟨_, d⟩
            · exact h1
            · exact d
          · rcases e with rfl | ⟨e1, e2⟩
            · exact hq
            · rcases hq with rfl | ⟨q1, q2⟩
              · exact .inr ⟨e1, e2⟩
              · exact .inr ⟨q1, e2⟩
        rcases low1 P w (by omega) with ⟨p1, n1, h1, h2 | ⟨rfl, h2⟩, h3⟩ | ⟨h1, h2⟩
        · exact fin h1 (by omega) (.inl rfl) (ihn n1 h2 p1 q h3)
        · exact fin h1 (Nat.le_refl _) (.inl rfl) (ihp p1 h2 q h3)
        · exact fin (by omega) (Nat.le_refl _) (.inr ⟨h2, by omega⟩) (ihp (p - 1) (by omega) (q - 1) h1)
/-- both ends of a walk can stand low -/
theorem low_ends (r0 : 1 ≤ r) (P : Low r E) (P' : Low r fun x y => E y x) {n p q : Nat} (w : Ws E n p q) : ∃ p' q' n', n' ≤ n ∧ Ws E n' p' q' ∧ p' ≤ 2 * r ∧ q' ≤ 2 * r ∧ (p' = p ∨ (r ≤ p ∧ r ≤ p')) ∧ (q' = q ∨ (r ≤ q ∧ r ≤ q')) := by
  obtain ⟨p1, q1, n1, a1, a2, a3, a4, a5⟩ := low2 P n p q w
  obtain ⟨q2, p2, n2, b1, b2, b3, b4, b5⟩ := low2 P' n1 q1 p1 a2.rev
  have e : p2 = p1 := by omega
  subst e
  refine ⟨p2, q2, n2, by omega, b2.rev, a3, b3, a4, ?_⟩
  rcases a5 with rfl | ⟨x, y⟩
  · exact b4
  · exact .inr ⟨by omega, by omega⟩
end
/-! ### what is let; rings -/
/-- the steps over what is let -/
def EL (L : Nat → Nat → Str → Prop) : Nat → Nat → Prop := fun h k => ∃ v u d s, h = v + u ∧ k = v + d ∧ L u d s
/-- a ring walk of n tasks: through level 0, or over both sides -/
def RA (L : Nat → Nat → Str → Prop) (n : Nat) : Prop :=
  (∃ k m, L 0 k "line" ∧ Ws (EL L) m k 0 ∧ n = m + 1) ∨
  ∃ p q p' q' n1 n2, L q' p "elder" ∧ L q p' "younger" ∧ Ws (EL L) n1 p q ∧ Ws (EL L) n2 p' q' ∧ n = n1 + n2 + 2
/-- k is the fewest tasks of a ring, or 0 -/
def KnotN (L : Nat → Nat → Str → Prop) (k : Nat) : Prop := (k = 0 ∧ ∀ n, ¬ RA L n) ∨ (RA L k ∧ ∀ n, RA L n → k ≤ n)
section
variable {L L' : Nat → Nat → Str → Prop}
theorem EL.imp (i : ∀ u d s, L u d s → L' u d s) {h k : Nat} (e : EL L h k) : EL L' h k := by
  obtain ⟨v, u, d, s, a, b, c⟩ := e
  exact ⟨v, u, d, s, a, b, i _ _ _ c⟩
theorem RA.imp (i : ∀ u d s, L u d s → L' u d s) {n : Nat} (h : RA L n) : RA L' n := by
  rcases h with ⟨k, m, a, b, c⟩ | ⟨p, q, p', q', n1, n2, a, b, c, d, e⟩
  · exact .inl ⟨k, m, i _ _ _ a, b.imp fun _ _ => EL.imp i, c⟩
  · exact .inr ⟨p, q, p', q', n1, n2, i _ _ _ a, i _ _ _ b, c.imp fun _ _ => EL.imp i, d.imp fun _ _ => EL.imp i, e⟩
theorem RA.two (nz : ∀ s, ¬ L 0 0 s) {n : Nat} (h : RA L n) : 2 ≤ n := by
  rcases h with ⟨k, m, a, b, c⟩ | ⟨p, q, p', q', n1, n2, a, b, c, d, e⟩
  · cases b with
    | nil => exact absurd a (nz _)
    | cons => omega
  · omega
theorem KnotN.uniq {k k' : Nat} (nz : ∀ s, ¬ L 0 0 s) (h : KnotN L k) (h' : KnotN L k') : k = k' := by
  rcases h with ⟨rfl, a⟩ | ⟨a, b⟩ <;> rcases h' with ⟨rfl, a'⟩ | ⟨a', b'⟩
  · rfl
  · exact absurd a' (a _)
  · exact absurd a (a' _)
  · exact Nat.le_antisymm (b _ a') (b' _ a)
theorem KnotN.mono {k k' : Nat} (nz : ∀ s, ¬ L' 0 0 s) (i : ∀ u d s, L u d s → L' u d s) (h : KnotN L k) (h' : KnotN L' k') (n0 : k ≠ 0) : k' ≠ 0 ∧ k' ≤ k := by
  rcases h with ⟨z, _⟩ | ⟨a, _⟩
  · exact absurd z n0
  · have a2 := a.imp i
    rcases h' with ⟨_, b⟩ | ⟨b, c⟩
    · exact absurd a2 (b _)
    · have := b.two nz
      exact ⟨by omega, c _ a2⟩
theorem KnotN.ring {k n : Nat} (nz : ∀ s, ¬ L 0 0 s) (h : KnotN L k) (hn : RA L n) : 2 ≤ k ∧ k ≤ n := by
  rcases h with ⟨_, a⟩ | ⟨a, b⟩
  · exact absurd hn (a _)
  · exact ⟨a.two nz, b _ hn⟩
theorem KnotN.low {k : Nat} (nz : ∀ s, ¬ L 0 0 s) (h : KnotN L k) : k = 0 ∨ 2 ≤ k := by
  rcases h with ⟨rfl, _⟩ | ⟨a, _⟩
  · exact .inl rfl
  · exact .inr (a.two nz)
end
/-! ### a rule's cells -/
def Lc (r : Nat) (rows : List KT) (u d : Nat) (s : Str) : Prop := s ∈ sidesS (u : Int) (d : Int) ∧ capK r ((u : Int), (d : Int), s) ∈ rows
section
variable {r : Nat} {rows : List KT}
theorem step_EL (ok : ∀ k ∈ rows, k ∈ cellsOf r) (r1 : r ≤ 4) {s g : Nat} : stepB r rows s g = true ↔ EL (Lc r rows) s g := by
  rw [step_iff ok r1]
  constructor
  · rintro ⟨v, u, d, sd, a, b, c, e⟩; exact ⟨v, u, d, sd, a, b, c, e⟩
  · rintro ⟨v, u, d, sd, a, b, c, e⟩; exact ⟨v, u, d, sd, a, b, c, e⟩
theorem Lc.shape (r0 : 1 ≤ r) {u d u' d' : Nat} {s : Str} (h : Lc r rows u d s) (hu : u = u' ∨ (r ≤ u ∧ r ≤ u')) (hd : d = d' ∨ (r ≤ d ∧ r ≤ d')) : Lc r rows u' d' s := shape_cap r0 hu hd h.1 h.2
theorem Lc.nz (ok : ∀ k ∈ rows, k ∈ cellsOf r) (r1 : r ≤ 4) (s : Str) : ¬ Lc r rows 0 0 s := fun h => by
  have := (cells_kv r1 (ok _ h.2)).2.2.2
  unfold capK capI at this
  revert this
  simp
  omega
theorem EL_low (r0 : 1 ≤ r) : Low r (EL (Lc r rows)) := by
  rintro h k hr ⟨v, u, d, s, rfl, rfl, l⟩
  by_cases hu : r < u
  · exact .inl ⟨v, u - 1, d, s, by omega, rfl, l.shape r0 (.inr ⟨by omega, by omega⟩) (.inl rfl)⟩
  · exact .inr ⟨⟨v - 1, u, d, s, by omega, by omega, l⟩, by omega⟩
theorem EL_low' (r0 : 1 ≤ r) : Low r fun x y => EL (Lc r rows) y x := by
  rintro h k hr ⟨v, u, d, s, rfl, rfl, l⟩
  by_cases hd : r < d
  · exact .inl ⟨v, u, d - 1, s, rfl, by omega, l.shape r0 (.inl rfl) (.inr ⟨by omega, by omega⟩)⟩
  · exact .inr ⟨⟨v - 1, u, d, s, by omega, by omega, l⟩, by omega⟩
theorem Ws.ofWk (ok : ∀ k ∈ rows, k ∈ cellsOf r) (r1 : r ≤ 4) {N n a b : Nat} (w : Wk (goalsN N r rows) a n b) : Ws (EL (Lc r rows)) n a b := by
  induction w with
  | nil => exact .nil
  | snoc _ hc ih => exact ih.snoc ((step_EL ok r1).mp (mem_goalsN.mp hc).2)
theorem Ws.toWk (ok : ∀ k ∈ rows, k ∈ cellsOf r) (r1 : r ≤ 4) : ∀ {n a b : Nat}, Ws (EL (Lc r rows)) n a b → ∃ c, Wk (goalsN (4 * r + c) r rows) a n b
  | 0, a, b, w => by
    cases w
    exact ⟨0, .nil⟩
  | n + 1, a, b, w => by
    obtain ⟨x, w1, h⟩ := w.last
    obtain ⟨c, w2⟩ := Ws.toWk ok r1 w1
    exact ⟨c + b, .snoc (walk_more (by omega) w2) (mem_goalsN.mpr ⟨by omega, (step_EL ok r1).mpr h⟩)⟩
/-- what a table of the generations tells -/
structure Cn (r : Nat) (rows : List KT) (cnt : Nat → Nat → Option Nat) : Prop where
  snd : ∀ i j c, i ≤ 2 * r → j ≤ 2 * r → cnt i j = some c → Ws (EL (Lc r rows)) c i j
  least : ∀ i j n, i ≤ 2 * r → j ≤ 2 * r → Ws (EL (Lc r rows)) n i j → ∃ c, cnt i j = some c ∧ c ≤ n
theorem Cn.of (ok : ∀ k ∈ rows, k ∈ cellsOf r) (r0 : 1 ≤ r) (r1 : r ≤ 4) {cnt bef : Nat → Nat → Option Nat} (h : ∀ i, i ≤ 2 * r → Dist (goalsOf r rows) i (cnt i) (bef i)) : Cn r rows cnt where
  snd := fun i j c hi hj e => Ws.ofWk ok r1 (goals_N ▸ (h i hi).snd j c e)
  least := fun i j n hi hj w => by
    obtain ⟨c, w2⟩ := w.toWk ok r1
    obtain ⟨m, hm, w3⟩ := cap_walk ok r0 r1 (by omega) (by omega) c n w2
    obtain ⟨d, e, hd⟩ := (h i hi).least m j w3
    exact ⟨d, e, by omega⟩
/-- the generations that a number of a cell stands for -/
def meantL (r d : Nat) : List Nat := if d < r then [d] else (List.range (r + 1)).map (r + ·)
theorem mem_meant {d g : Nat} (hd : d ≤ r) : g ∈ meantL r d ↔ g ≤ 2 * r ∧ (g = d ∨ (r ≤ d ∧ r ≤ g)) := by
  unfold meantL
  split
  · rw [List.mem_singleton]; omega
  · rw [List.mem_map]
    constructor
    · rintro ⟨x, hx, rfl⟩; rw [List.mem_range] at hx; omega
    · rintro ⟨h1, h2⟩; exact ⟨g - r, by rw [List.mem_range]; omega, by omega⟩
/-- rings as they are looked for -/
def RL (r : Nat) (rows : List KT) (cnt : Nat → Nat → Option Nat) (n : Nat) : Prop := ∃ d g c : Nat, (((0 : Int), (d : Int), ("line" : Str)) : KT) ∈ rows ∧ g ∈ meantL r d ∧ cnt g 0 = some c ∧ n = c + 1
def RS (r : Nat) (rows : List KT) (cnt : Nat → Nat → Option Nat) (n : Nat) : Prop := ∃ u d u' d' g l g' l' c c' : Nat, (((u : Int), (d : Int), ("elder" : Str)) : KT) ∈ rows ∧ (((u' : Int), (d' : Int), ("younger" : Str)) : KT) ∈ rows ∧ g ∈ meantL r d ∧ l ∈ meantL r u' ∧ cnt g l = some c ∧ g' ∈ meantL r d' ∧ l' ∈ meantL r u ∧ cnt g' l' = some c' ∧ n = c + c' + 2
theorem capI_nat {r x : Nat} : capI (x : Int) r = ((min x r : Nat) : Int) := by unfold capI; split <;> omega
/-- a cell lets what it stands for -/
theorem Lc.of_cell (ok : ∀ k ∈ rows, k ∈ cellsOf r) (r0 : 1 ≤ r) (r1 : r ≤ 4) {u d : Nat} {s : Str} (h : (((u : Int), (d : Int), s) : KT) ∈ rows) : Lc r rows u d s ∧ u ≤ r ∧ d ≤ r := by
  obtain ⟨kv, k1, k2, _⟩ := cells_kv r1 (ok _ h)
  refine ⟨⟨?_, ?_⟩, by simp at k1; omega, by simp at k2; omega⟩
  · have f := kv.fit
    dsimp only at f
    unfold sidesS
    unfold fitsB at f
    by_cases z : (u : Int) = 0 ∨ (d : Int) = 0
    · rw [if_pos z] at f ⊢
      rw [List.mem_singleton]
      exact of_decide_eq_true f
    · rw [if_neg z] at f ⊢
      simpa using f
  · rw [capK_id k1 k2]; exact h
theorem RL.ra (ok : ∀ k ∈ rows, k ∈ cellsOf r) (r0 : 1 ≤ r) (r1 : r ≤ 4) {cnt : Nat → Nat → Option Nat} (C : Cn r rows cnt) {n : Nat} (h : RL r rows cnt n) : RA (Lc r rows) n := by
  obtain ⟨d, g, c, h1, h2, h3, rfl⟩ := h
  obtain ⟨l, _, dr⟩ := Lc.of_cell ok r0 r1 (u := 0) h1
  obtain ⟨g1, g2⟩ := (mem_meant dr).mp h2
  exact .inl ⟨g, c, l.shape r0 (.inl rfl) (by omega), C.snd _ _ _ g1 (by omega) h3, rfl⟩
theorem RS.ra (ok : ∀ k ∈ rows, k ∈ cellsOf r) (r0 : 1 ≤ r) (r1 : r ≤ 4) {cnt : Nat → Nat → Option Nat} (C : Cn r rows cnt) {n : Nat} (h : RS r rows cnt n) : RA (Lc r rows) n := by
  obtain ⟨u, d, u', d', g, l, g', l', c, c', h1, h2, h3, h4, h5, h6, h7, h8, rfl⟩ := h
  obtain ⟨a, ur, dr⟩ := Lc.of_cell ok r0 r1 h1
  obtain ⟨b, ur', dr'⟩ := Lc.of_cell ok r0 r1 h2
  obtain ⟨g1, g2⟩ := (mem_meant dr).mp h3
  obtain ⟨l1, l2⟩ := (mem_meant ur').mp h4
  obtain ⟨g3, g4⟩ := (mem_meant dr').mp h6
  obtain ⟨l3, l4⟩ := (mem_meant ur).mp h7
  exact .inr ⟨g, l, g', l', c, c', a.shape r0 (by omega) (by omega), b.shape r0 (by omega) (by omega), C.snd _ _ _ g1 l1 h5, C.snd _ _ _ g3 l3 h8, by omega⟩
theorem RA.found (ok : ∀ k ∈ rows, k ∈ cellsOf r) (r0 : 1 ≤ r) (r1 : r ≤ 4) {cnt : Nat → Nat → Option Nat} (C : Cn r rows cnt) {n : Nat} (h : RA (Lc r rows) n) : ∃ m, m ≤ n ∧ (RL r rows cnt m ∨ RS r rows cnt m) := by
  have cell : ∀ {u d : Nat} {s : Str}, Lc r rows u d s → ((((min u r : Nat) : Int), ((min d r : Nat) : Int), s) : KT) ∈ rows := fun l => by
    have := l.2
    unfold capK at this
    rw [capI_nat, capI_nat] at this
    exact this
  have mem : ∀ {p p' : Nat}, p' ≤ 2 * r → (p' = p ∨ (r ≤ p ∧ r ≤ p')) → p' ∈ meantL r (min p r) := fun h1 h2 => (mem_meant (Nat.min_le_right _ _)).mpr ⟨h1, by omega⟩
  rcases h with ⟨k, m, a, b, rfl⟩ | ⟨p, q, p', q', n1, n2, a, b, w, w', rfl⟩
  · obtain ⟨k', z, m', h1, h2, h3, h4, h5, h6⟩ := low_ends r0 (EL_low r0) (EL_low' r0) b
    have ez : z = 0 := by omega
    subst ez
    obtain ⟨c, hc, lc⟩ := C.least _ _ _ h3 h4 h2
    have := cell a
    rw [show min 0 r = 0 by omega] at this
    exact ⟨c + 1, by omega, .inl ⟨_, k', c, this, mem h3 h5, hc, rfl⟩⟩
  · obtain ⟨p1, q1, m1, h1, h2, h3, h4, h5, h6⟩ := low_ends r0 (EL_low r0) (EL_low' r0) w
    obtain ⟨p2, q2, m2, g1, g2, g3, g4, g5, g6⟩ := low_ends r0 (EL_low r0) (EL_low' r0) w'
    obtain ⟨c, hc, lc⟩ := C.least _ _ _ h3 h4 h2
    obtain ⟨c', hc', lc'⟩ := C.least _ _ _ g3 g4 g2
    exact ⟨c + c' + 2, by omega, .inr ⟨_, _, _, _, p1, q1, p2, q2, c, c', cell a, cell b, mem h3 h5, mem h4 h6, hc, mem g3 g5, mem g4 g6, hc', rfl⟩⟩
/-- the least number of the two kinds -/
theorem knotN_of (ok : ∀ k ∈ rows, k ∈ cellsOf r) (r0 : 1 ≤ r) (r1 : r ≤ 4) {cnt : Nat → Nat → Option Nat} (C : Cn r rows cnt) {k : Nat} (h : (k = 0 ∧ ∀ n, ¬ (RL r rows cnt n ∨ RS r rows cnt n)) ∨ ((RL r rows cnt k ∨ RS r rows cnt k) ∧ ∀ n, RL r rows cnt n ∨ RS r rows cnt n → k ≤ n)) : KnotN (Lc r rows) k := by
  have up : ∀ {n}, RL r rows cnt n ∨ RS r rows cnt n → RA (Lc r rows) n := fun h => h.elim (fun h => h.ra ok r0 r1 C) fun h => h.ra ok r0 r1 C
  rcases h with ⟨rfl, a⟩ | ⟨a, b⟩
  · refine .inl ⟨rfl, fun n hn => ?_⟩
    obtain ⟨m, _, hm⟩ := hn.found ok r0 r1 C
    exact a m hm
  · refine .inr ⟨up a, fun n hn => ?_⟩
    obtain ⟨m, hm, hm2⟩ := hn.found ok r0 r1 C
    exact Nat.le_trans (b m hm2) hm
end
end Fw

namespace Fw
open PySem PySem.Spec PyProof.Rows L2
/-! ### the least of what has a property, with what shows it -/
def Best {α : Type} (Q : Nat → α → Prop) : Option (Nat × α) → Prop
  | none => ∀ n x, ¬ Q n x
  | some (n, x) => Q n x ∧ ∀ n' x', Q n' x' → n ≤ n'
def joinO {α : Type} : Option (Nat × α) → Option (Nat × α) → Option (Nat × α)
  | o, none => o
  | none, some y => some y
  | some b, some y => if y.1 < b.1 then some y else some b
section
variable {α β : Type} {Q R Q' : Nat → α → Prop} {o o' : Option (Nat × α)}
theorem Best.join (h : Best Q o) (h' : Best R o') (i : ∀ n x, Q' n x ↔ Q n x ∨ R n x) : Best Q' (joinO o o') := by
  cases o' with
  | none =>
    have e : joinO o none = o := by cases o <;> rfl
    rw [e]
    cases o with
    | none => exact fun n x q => ((i n x).mp q).elim (h n x) (h' n x)
    | some b => exact ⟨(i _ _).mpr (.inl h.1), fun n x q => ((i n x).mp q).elim (h.2 n x) fun z => absurd z (h' n x)⟩
  | some y =>
    cases o with
    | none => exact ⟨(i _ _).mpr (.inr h'.1), fun n x q => ((i n x).mp q).elim (fun z => absurd z (h n x)) (h'.2 n x)⟩
    | some b =>
      show Best Q' (if y.1 < b.1 then some y else some b)
      split
      · rename_i l
        exact ⟨(i _ _).mpr (.inr h'.1), fun n x q => ((i n x).mp q).elim (fun z => by have := h.2 n x z; omega) (h'.2 n x)⟩
      · rename_i l
        exact ⟨(i _ _).mpr (.inl h.1), fun n x q => ((i n x).mp q).elim (h.2 n x) fun z => by have := h'.2 n x z; omega⟩
theorem Best.iff (h : Best Q o) (i : ∀ n x, Q n x ↔ Q' n x) : Best Q' o := by
  cases o with
  | none => exact fun n x q => h n x ((i n x).mpr q)
  | some b => exact ⟨(i _ _).mp h.1, fun n x q => h.2 n x ((i n x).mpr q)⟩
theorem Best.nil (h : ∀ n x, ¬ Q n x) : Best Q none := h
/-- the sum of the least ones -/
theorem Best.one {n : Nat} {x : α} : Best (fun m y => m = n ∧ y = x) (some (n, x)) := ⟨⟨rfl, rfl⟩, fun _ _ q => Nat.le_of_eq q.1.symm⟩
end
/-! ### nearest generations -/
def NearQ (cnt : Nat → Nat → Option Nat) (ps : List (Nat × Nat)) (n : Nat) (x : Nat × Nat) : Prop := x ∈ ps ∧ cnt x.1 x.2 = some n
def pairsL (fs ls : List Nat) : List (Nat × Nat) := fs.flatMap fun f => ls.map fun l => (f, l)
def cntO (cnt : Nat → Nat → Option Nat) (f l : Nat) : Option (Nat × (Nat × Nat)) := (cnt f l).map fun c => (c, (f, l))
theorem near_one {cnt : Nat → Nat → Option Nat} {f l : Nat} : Best (NearQ cnt [(f, l)]) (cntO cnt f l) := by
  unfold cntO
  cases h : cnt f l with
  | none => rintro n ⟨x, y⟩ ⟨a, b⟩; rw [List.mem_singleton] at a; cases a; simp only at b; rw [h] at b; cases b
  | some c => exact ⟨⟨by simp, h⟩, fun n x ⟨a, b⟩ => by rw [List.mem_singleton] at a; subst a; simp only at b; rw [h] at b; cases b; exact Nat.le_refl _⟩
theorem near_app {cnt : Nat → Nat → Option Nat} {ps qs : List (Nat × Nat)} {n : Nat} {x : Nat × Nat} : NearQ cnt (ps ++ qs) n x ↔ NearQ cnt ps n x ∨ NearQ cnt qs n x := by
  unfold NearQ
  rw [List.mem_append]
  constructor
  · rintro ⟨a | a, b⟩
    · exact .inl ⟨a, b⟩
    · exact .inr ⟨a, b⟩
  · rintro (⟨a, b⟩ | ⟨a, b⟩)
    · exact ⟨.inl a, b⟩
    · exact ⟨.inr a, b⟩
theorem mem_pairs {fs ls : List Nat} {f l : Nat} : (f, l) ∈ pairsL fs ls ↔ f ∈ fs ∧ l ∈ ls := by
  unfold pairsL
  simp
theorem pairs_snoc {fs ls : List Nat} {f : Nat} : pairsL (fs ++ [f]) ls = pairsL fs ls ++ ls.map fun l => (f, l) := by
  unfold pairsL
  rw [List.flatMap_append]
  simp
abbrev N3 : Type := Nat × (Nat × Nat)
def V3 (S : Dst) (H : Hp) (v : V) (x : N3) : Prop := ∃ p, v = .ref p ∧ H p = some (.tup [.int (x.1 : Int), .int (x.2.1 : Int), .int (x.2.2 : Int)]) ∧ ¬ Sx S p
def O3 (S : Dst) (H : Hp) (v : V) (o : Option N3) : Prop := match o with
  | none => v = .non
  | some x => V3 S H v x
def O2 (S : Dst) (H : Hp) (v : V) (o : Option (Nat × Nat)) : Prop := match o with
  | none => v = .non
  | some x => ∃ p, v = .ref p ∧ H p = some (.tup [.int (x.1 : Int), .int (x.2 : Int)]) ∧ ¬ Sx S p
def OS (S : Dst) (H : Hp) (v : V) (o : Option (Nat × (N3 × N3))) : Prop := match o with
  | none => v = .non
  | some x => ∃ p a b, v = .ref p ∧ H p = some (.tup [.int (x.1 : Int), a, b]) ∧ ¬ Sx S p ∧ V3 S H a x.2.1 ∧ V3 S H b x.2.2
section
variable {S : Dst} {H H1 : Hp} {v : V}
theorem V3.go {x : N3} (h : V3 S H v x) (e : ∀ p xs, ¬ Sx S p → H p = some (.tup xs) → H1 p = some (.tup xs)) : V3 S H1 v x := let ⟨p, a, b, c⟩ := h; ⟨p, a, e _ _ c b, c⟩
theorem O3.go {o : Option N3} (h : O3 S H v o) (e : ∀ p xs, ¬ Sx S p → H p = some (.tup xs) → H1 p = some (.tup xs)) : O3 S H1 v o := by
  cases o with
  | none => exact h
  | some x => exact V3.go h e
theorem O2.go {o : Option (Nat × Nat)} (h : O2 S H v o) (e : ∀ p xs, ¬ Sx S p → H p = some (.tup xs) → H1 p = some (.tup xs)) : O2 S H1 v o := by
  cases o with
  | none => exact h
  | some x => exact let ⟨p, a, b, c⟩ := h; ⟨p, a, e _ _ c b, c⟩
theorem OS.go {o : Option (Nat × (N3 × N3))} (h : OS S H v o) (e : ∀ p xs, ¬ Sx S p → H p = some (.tup xs) → H1 p = some (.tup xs)) : OS S H1 v o := by
  cases o with
  | none => exact h
  | some x => exact let ⟨p, a, b, c, d, f, g, k⟩ := h; ⟨p, a, b, c, e _ _ f d, f, g.go e, k.go e⟩
theorem O3.mono {o : Option N3} (h : O3 S H v o) (e : Lx S H H1) : O3 S H1 v o := h.go fun p xs n hp => e.1 _ _ n hp
theorem O2.mono {o : Option (Nat × Nat)} (h : O2 S H v o) (e : Lx S H H1) : O2 S H1 v o := h.go fun p xs n hp => e.1 _ _ n hp
theorem OS.mono {o : Option (Nat × (N3 × N3))} (h : OS S H v o) (e : Lx S H H1) : OS S H1 v o := h.go fun p xs n hp => e.1 _ _ n hp
theorem O3.non {o : Option N3} (h : O3 S H v o) : decide (v = .non) = o.isNone := by
  cases o with
  | none => cases h; rfl
  | some x => obtain ⟨p, rfl, _⟩ := h; rfl
theorem O2.non {o : Option (Nat × Nat)} (h : O2 S H v o) : decide (v = .non) = o.isNone := by
  cases o with
  | none => cases h; rfl
  | some x => obtain ⟨p, rfl, _⟩ := h; rfl
theorem OS.non {o : Option (Nat × (N3 × N3))} (h : OS S H v o) : decide (v = .non) = o.isNone := by
  cases o with
  | none => cases h; rfl
  | some x => obtain ⟨p, a, b, rfl, _⟩ := h; rfl
end
/-! ### the least ring through level 0; over both sides -/
def LineQ (r : Nat) (cnt : Nat → Nat → Option Nat) (ks : List KT) (n : Nat) (g : Nat) : Prop := ∃ d c : Nat, (((0 : Int), (d : Int), ("line" : Str)) : KT) ∈ ks ∧ g ∈ meantL r d ∧ cnt g 0 = some c ∧ n = c + 1
def SideQ (r : Nat) (cnt : Nat → Nat → Option Nat) (es ys : List KT) (n : Nat) (x : N3 × N3) : Prop := ∃ u d u' d' : Nat, (((u : Int), (d : Int), ("elder" : Str)) : KT) ∈ es ∧ (((u' : Int), (d' : Int), ("younger" : Str)) : KT) ∈ ys ∧ NearQ cnt (pairsL (meantL r d) (meantL r u')) x.1.1 x.1.2 ∧ NearQ cnt (pairsL (meantL r d') (meantL r u)) x.2.1 x.2.2 ∧ n = x.1.1 + x.2.1 + 2
theorem line_RL {r n : Nat} {cnt : Nat → Nat → Option Nat} {rows : List KT} : RL r rows cnt n ↔ ∃ g, LineQ r cnt rows n g :=
  ⟨fun ⟨d, g, c, a, b, e, f⟩ => ⟨g, d, c, a, b, e, f⟩, fun ⟨g, d, c, a, b, e, f⟩ => ⟨d, g, c, a, b, e, f⟩⟩
theorem side_RS {r n : Nat} {cnt : Nat → Nat → Option Nat} {rows : List KT} : RS r rows cnt n ↔ ∃ x, SideQ r cnt rows rows n x := by
  constructor
  · rintro ⟨u, d, u', d', g, l, g', l', c, c', h1, h2, h3, h4, h5, h6, h7, h8, h9⟩
    exact ⟨((c, (g, l)), (c', (g', l'))), u, d, u', d', h1, h2, ⟨mem_pairs.mpr ⟨h3, h4⟩, h5⟩, ⟨mem_pairs.mpr ⟨h6, h7⟩, h8⟩, h9⟩
  · rintro ⟨⟨⟨c, g, l⟩, ⟨c', g', l'⟩⟩, u, d, u', d', h1, h2, ⟨h3, h5⟩, ⟨h6, h8⟩, h9⟩
    obtain ⟨a, b⟩ := mem_pairs.mp h3
    obtain ⟨a', b'⟩ := mem_pairs.mp h6
    exact ⟨u, d, u', d', g, l, g', l', c, c', h1, h2, a, b, h5, a', b', h8, h9⟩

/-! ### x is None or c < x[0] -/
def HdV (S : Dst) (H : Hp) (v : V) (o : Option Nat) : Prop := match o with
  | none => v = .non
  | some b => ∃ p rest, v = .ref p ∧ H p = some (.tup (.int (b : Int) :: rest)) ∧ ¬ Sx S p
theorem O3.hd {S : Dst} {H : Hp} {v : V} {o : Option N3} (h : O3 S H v o) : HdV S H v (o.map (·.1)) := by
  cases o with
  | none => exact h
  | some x => obtain ⟨p, a, b, c⟩ := h; exact ⟨p, _, a, b, c⟩
theorem O2.hd {S : Dst} {H : Hp} {v : V} {o : Option (Nat × Nat)} (h : O2 S H v o) : HdV S H v (o.map (·.1)) := by
  cases o with
  | none => exact h
  | some x => obtain ⟨p, a, b, c⟩ := h; exact ⟨p, _, a, b, c⟩
theorem OS.hd {S : Dst} {H : Hp} {v : V} {o : Option (Nat × (N3 × N3))} (h : OS S H v o) : HdV S H v (o.map (·.1)) := by
  cases o with
  | none => exact h
  | some x => obtain ⟨p, a, b, c, d, e, _⟩ := h; exact ⟨p, _, c, d, e⟩
def lessO (o : Option Nat) (c : Nat) : Bool := match o with
  | none => true
  | some b => decide (c < b)
theorem joinO_less {α : Type} {o : Option (Nat × α)} {y : Nat × α} : joinO o (some y) = if lessO (o.map (·.1)) y.1 = true then some y else o := by
  cases o with
  | none => rfl
  | some b =>
    show (if y.1 < b.1 then some y else some b) = if decide (y.1 < b.1) = true then some y else some b
    by_cases h : y.1 < b.1
    · rw [if_pos h, if_pos (decide_eq_true h)]
    · rw [if_neg h, if_neg (by rw [decide_eq_false h]; exact Bool.false_ne_true)]
abbrev rIsN : R2 := fun x y H Q => y = .non ∧ Q (.bl (decide (x = .non))) H
section
variable {K : PySem.W.Frag} {S : Dst} {σ : L2.St} {H : Hp} {tv tv2 tc : TE} {v : V} {o : Option Nat} {c : Nat}
theorem ev_hd {b : Nat} (hv : Ev K S tv σ H v) (h : HdV S H v (some b)) : Ev K S (tOp (rIxT K) tv (tC (.int 0))) σ H (.int (b : Int)) := by
  obtain ⟨p, rest, rfl, hp, np⟩ := h
  exact ev_op hv ev_c (rv_ixT (UA.of hp np) (at_of (j := 0) rfl rfl))
theorem et_less (h : HdV S H v o) (hv : Ev K S tv σ H v) (hv2 : Ev K S tv2 σ H v) (hc : Ev K S tc σ H (.int (c : Int))) :
    EvT K S (tOr (tTest (tOp rIsN tv (tC .non))) (tTest (tOp (rI0 fun i j => .bl (decide (i < j))) tc (tOp (rIxT K) tv2 (tC (.int 0)))))) σ H (lessO o c) := by
  cases o with
  | none =>
    cases h
    exact et_is (et_or (c := false) (et_test (ev_op hv ev_c rv_isN)) fun z => nomatch z) rfl
  | some b =>
    have e : decide (v = .non) = false := by obtain ⟨p, rest, rfl, _⟩ := h; rfl
    refine et_is (et_or (et_test (ev_op hv ev_c rv_isN)) fun _ => et_test (ev_op hc (ev_hd hv2 h) rv_I0)) ?_
    rw [e, Bool.false_or]
    show decide ((c : Int) < (b : Int)) = decide (c < b)
    simp
end
theorem rv_ixQT {K : PySem.W.Frag} {S : Dst} {H : Hp} {p : Addr} {xs : List V} {i : Int} {v : V} (h : UA K S H p xs) (ha : atI xs i = some v) : RV K S (rIx K) (.ref p) (.int i) H v := fun H1 e _ q => .inr (.inl ⟨p, xs, i, v, rfl, rfl, (h.mono e).q, ha, q H1 e.refl⟩)
end Fw

namespace Fw
open PySem PySem.Spec PyProof.Rows L2
/-! ### comprehensions over a list of things that stand for data -/
def RelL {α : Type} (R : V → α → Hp → Prop) (ys : List V) (ks : List α) (H : Hp) : Prop := ys.length = ks.length ∧ ∀ (i : Nat) (y : V) (k : α), ys[i]? = some y → ks[i]? = some k → R y k H
section
variable {K : PySem.W.Frag} {S : Dst} {σ : L2.St} {H : Hp} {te tl : TE} {t : TT}
theorem RelL.snoc {α : Type} {R : V → α → Hp → Prop} {ys : List V} {ks : List α} {y : V} {k : α} (h : RelL R ys ks H) (hy : R y k H) : RelL R (ys ++ [y]) (ks ++ [k]) H := by
  refine ⟨by rw [List.length_append, List.length_append, h.1]; rfl, fun i z q a b => ?_⟩
  by_cases l : i < ys.length
  · rw [List.getElem?_append_left l] at a
    rw [List.getElem?_append_left (by rw [← h.1]; exact l)] at b
    exact h.2 i z q a b
  · have l2 := (List.getElem?_eq_some_iff.mp a).1
    rw [List.length_append, List.length_singleton] at l2
    have e : i = ys.length := by omega
    subst e
    rw [List.getElem?_append_right (Nat.le_refl _), Nat.sub_self] at a
    rw [h.1, List.getElem?_append_right (Nat.le_refl _), Nat.sub_self] at b
    cases a
    cases b
    exact hy
theorem ex_lcFM {α β : Type} {R : V → β → Hp → Prop} (mono : ∀ y k H1 H2, Lx S H1 H2 → R y k H1 → R y k H2) (stab : ∀ y k H1 D us ws, H1 D = some (.lst us) → R y k H1 → R y k (upd H1 D (.lst ws)))
    {a : Addr} {xs : List V} {ks : List α} {j : Nat} {ws : List Nat} (p : α → Bool) (f : α → β) (h : Ev K S tl σ H (.ref a)) (hx : LA K S H a xs) (len : xs.length = ks.length) (hz : xs.length < sizeLine) (hw : ∀ x, wipe ((wipe σ ws).set j (some x)) ws = wipe σ ws)
    (ht : ∀ (i : Nat) (x : V) (k : α) (H1 : Hp), xs[i]? = some x → ks[i]? = some k → Lx S H H1 → EvTX K S t ((wipe σ ws).set j (some x)) H1 fun b _ => b = p k)
    (he : ∀ (i : Nat) (x : V) (k : α) (H1 : Hp), xs[i]? = some x → ks[i]? = some k → p k = true → Lx S H H1 → EvX K S te ((wipe σ ws).set j (some x)) H1 fun y H2 => R y (f k) H2) :
    EvX K S (tLc (iList K tl) (gName j) t te ws) σ H (fun v H2 => ∃ q acc, v = .ref q ∧ H q = none ∧ ¬ Sx S q ∧ H2 q = some (.lst acc) ∧ RelL R acc ((ks.filter p).map f) H2) := by
  refine (ex_lcN h hx hz hw (fun D i acc H' => RelL R acc (((ks.take i).filter p).map f) H') (fun D H' _ _ _ _ => ⟨rfl, fun i y k a _ => by simp at a⟩) ?_).imp ?_
  · intro D i y acc G2 nD fD gD hi f2 pv
    have il : i < ks.length := by rw [← len]; exact (List.getElem?_eq_some_iff.mp hi).1
    have hki := List.getElem?_eq_getElem il
    have tk : ((ks.take (i + 1)).filter p).map f = ((ks.take i).filter p).map f ++ (if p ks[i] = true then [f ks[i]] else []) := by
      rw [List.take_succ, hki, List.filter_append, List.map_append]
      simp only [Option.toList_some, List.filter_cons, List.filter_nil]
      congr 1
      split <;> rfl
    generalize ks[i] = kt at *
    refine (ht i y kt G2 hi hki f2).imp ?_
    rintro b G3 f3 rfl
    refine ⟨fun hb => (he i y kt G3 hi hki hb (f2.trans f3)).imp fun w G4 f4 hw => ?_, fun hb => ?_⟩
    · rw [tk, if_pos hb]
      have r4 : RelL R (acc ++ [w]) (((ks.take i).filter p).map f ++ [f kt]) G4 := RelL.snoc ⟨pv.1, fun m z k a b => mono _ _ _ _ f4 (mono _ _ _ _ f3 (pv.2 m z k a b))⟩ hw
      exact ⟨r4.1, fun m z k a b => stab _ _ _ _ _ _ (f4.1 _ _ nD (f3.1 _ _ nD gD)) (r4.2 m z k a b)⟩
    · rw [tk, if_neg (by rw [hb]; exact Bool.false_ne_true), List.append_nil]
      exact ⟨pv.1, fun m z k a b => mono _ _ _ _ f3 (pv.2 m z k a b)⟩
  · rintro v G f ⟨q, acc, hv, fq, nq, hq, _, ea⟩
    rw [len, List.take_length] at ea
    exact ⟨q, acc, hv, fq, nq, hq, ea⟩
end
section
variable {K : PySem.W.Frag} {S : Dst} {H : Hp} {w : World}
theorem rv_kd {p : Addr} {z : Str} {v : V} {es : Array DictEntry} {n : Nat} (d : KDict K w p es n) (h : ∃ u, PySem.W.nsIn K p z = some (some u) ∧ RelV v u) : RV K S (rIxD K w) (.ref p) (.str z) H v := fun H1 e _ q => by
  obtain ⟨u, a, b⟩ := h
  exact ⟨p, z, v, rfl, rfl, ⟨es, n, u, d.at_, d.lit, a, b⟩, q H1 e.refl⟩
end
end Fw
namespace Fw
open PySem PySem.Spec PyProof.Rows L2
/-- -o of an own class -/
theorem ex_unO {K : PySem.W.Frag} {S : Dst} {σ : L2.St} {H : Hp} {ta : TE} {a C : Addr} {fs : List (Str × V)} {sp : Sp} {E : XK} {P : V → Hp → Prop} (h : Ev K S ta σ H (.ref a)) (i : IA S H a C fs) (k : SpX K S sp [.ref a] H E P) : EvX K S (tUn (rOU C sp E) ta) σ H P := fun H1 e Q q => h H1 e _ fun H2 e2 => by
  obtain ⟨⟨dx, q2⟩, _⟩ := i.mono (e.trans e2)
  exact ⟨a, rfl, ⟨dx, fs, q2⟩, k H2 (e.trans e2) Q fun z H3 e3 p => q z H3 (e2.trans e3) p⟩
end Fw
namespace Fw
open PySem PySem.Spec PyProof.Rows L2
theorem EvX.lx {K : PySem.W.Frag} {S : Dst} {σ : L2.St} {H : Hp} {te : TE} {P : V → Hp → Prop} (h : EvX K S te σ H P) : EvX K S te σ H fun v H2 => P v H2 ∧ Lx S H H2 := fun G g Q q => h G g Q fun v G2 g2 z => q v G2 g2 ⟨z, g.trans g2⟩
end Fw

namespace Fw
open PySem PySem.Spec PyProof.Rows L2
/-! ### programs, plainly -/
/-- a statement: the empty tuple, or a word and numbers -/
abbrev Stm := Option (Str × List Int)
def stV : Stm → List V
  | none => []
  | some (w, ns) => .str w :: ns.map .int
def isStB (w : Str) (n : Nat) : Bool := if w = "wait" ∨ w = "any" then decide (1 ≤ n) else decide (w = "bear") && decide (n = 1)
def validB (n last : Nat) (par : Nat → Option Nat) : Stm → Bool
  | none => false
  | some (w, ns) => isStB w ns.length && (ns.all (fun t => decide (0 ≤ t) && decide (t < (n : Int))) && (!decide (w = "bear") || (decide ((last : Int) < ns.headD 0) && (par (ns.headD 0).toNat).isNone)))
def setN (par : Nat → Option Nat) (t s : Nat) : Nat → Option Nat := fun x => if x = t then some s else par x
def lastOf (last : Nat) : Stm → Nat
  | some (w, t :: _) => if w = "bear" then t.toNat else last
  | _ => last
def parOf (slot : Nat) (par : Nat → Option Nat) : Stm → Nat → Option Nat
  | some (w, t :: _) => if w = "bear" then setN par t.toNat slot else par
  | _ => par
/-- one body: the place of the first statement at fault, or who bears whom -/
def goB (n slot : Nat) : Nat → List Stm → Nat → (Nat → Option Nat) → Except Nat (Nat → Option Nat)
  | _, [], _, par => .ok par
  | i, s :: ss, last, par => if validB n last par s then goB n slot (i + 1) ss (lastOf last s) (parOf slot par s) else .error i
/-- all bodies -/
def goA (n : Nat) : Nat → List (List Stm) → (Nat → Option Nat) → Except (Nat × Nat) (Nat → Option Nat)
  | _, [], par => .ok par
  | slot, ss :: rest, par => match goB n slot 0 ss slot par with
    | .ok par' => goA n (slot + 1) rest par'
    | .error i => .error (slot, i)
/-- the first slot from k on that nobody bears -/
def lack (par : Nat → Option Nat) : Nat → Nat → Option Nat
  | _, 0 => none
  | k, m + 1 => if (par k).isNone then some k else lack par (k + 1) m
def faultP (bodies : List (List Stm)) : Option (Nat × Option Nat) :=
  if bodies.length = 0 then some (0, none) else match goA bodies.length 0 bodies (fun _ => none) with
    | .error (s, i) => some (s, some i)
    | .ok par => (lack par 1 (bodies.length - 1)).map fun s => (s, none)
/-- the list of the borne ones stands for the map -/
def BorneOf (borne : List Int) (par : Nat → Option Nat) : Prop := ∀ t : Nat, (t : Int) ∈ borne ↔ t = 0 ∨ (par t).isSome = true
/-- the law's own reading of one statement -/
def goodB (n last : Nat) (borne : List Int) : Stm → Bool
  | none => false
  | some (w, ns) => decide (1 ≤ ns.length) && ((decide (w = "bear") || (decide (w = "wait") || decide (w = "any"))) && ((!decide (w = "bear") || decide (ns.length = 1)) && (ns.all (fun t => decide (0 ≤ t) && decide (t < (n : Int))) && (!decide (w = "bear") || (decide ((last : Int) < ns.headD 0) && !borne.contains (ns.headD 0))))))
theorem good_valid {n last : Nat} {borne : List Int} {par : Nat → Option Nat} (h : BorneOf borne par) (s : Stm) : goodB n last borne s = validB n last par s := by
  match s with
  | none => rfl
  | some (w, ns) =>
    unfold goodB validB isStB
    dsimp only
    by_cases wb : w = "bear"
    · subst wb
      have nw : ¬ (("bear" : Str) = "wait" ∨ ("bear" : Str) = "any") := by decide
      rw [if_neg nw]
      match ns with
      | [] => simp
      | [t] =>
        by_cases lt : (last : Int) < t
        · have e : (par t.toNat).isNone = !borne.contains t := by
            have q := h t.toNat
            rw [show ((t.toNat : Nat) : Int) = t by omega] at q
            have n0 : ¬ t.toNat = 0 := by omega
            rw [Bool.eq_iff_iff, Bool.not_eq_true', ← Bool.not_eq_true, List.contains_iff_mem, q]
            cases par t.toNat <;> simp [n0]
          simp [e]
        · simp [lt]
      | t :: t' :: r => simp
    · by_cases wa : w = "wait" ∨ w = "any"
      · rw [if_pos wa]
        rcases wa with z | z
        · subst z
          have e : ¬ ("wait" : Str) = "bear" := by decide
          simp [e]
        · subst z
          have e : ¬ ("any" : Str) = "bear" := by decide
          simp [e]
      · rw [if_neg wa]
        have w1 : ¬ w = "wait" := fun z => wa (.inl z)
        have w2 : ¬ w = "any" := fun z => wa (.inr z)
        simp [wb, w1, w2]
end Fw

namespace Fw
open PySem PySem.Spec PyProof.Rows L2
/-! ### statements, bodies and programs in the heap -/
def StmA (S : Dst) (H : Hp) (v : V) (s : Stm) : Prop := ∃ p, v = .ref p ∧ H p = some (.tup (stV s)) ∧ ¬ Sx S p ∧ (stV s).length ≤ 20
def BodyA (S : Dst) (H : Hp) (b : Addr) (ss : List Stm) : Prop := ¬ Sx S b ∧ ∃ ys, H b = some (.lst ys) ∧ RelL (fun v s H => StmA S H v s) ys ss H
/-- bodies, by the values that hold them -/
def BodsR (S : Dst) (H : Hp) (ys : List V) (bs : List (List Stm)) : Prop := RelL (fun v ss H => ∃ b, v = .ref b ∧ BodyA S H b ss) ys bs H
/-- a list of bodies, all of them apart -/
structure BodsM (S : Dst) (H : Hp) (a : Addr) (as : List Addr) (bs : List (List Stm)) : Prop where
  na : ¬ Sx S a
  at_ : H a = some (.lst (as.map V.ref))
  nd : as.Nodup
  out : a ∉ as
  len : as.length = bs.length
  all : ∀ (i : Nat) (b : Addr) (ss : List Stm), as[i]? = some b → bs[i]? = some ss → BodyA S H b ss
section
variable {S : Dst} {H H1 : Hp} {v : V} {s : Stm} {a b c : Addr} {ss : List Stm} {as : List Addr} {bs : List (List Stm)} {o : HO} {ys zs : List V}
theorem StmA.mono (e : Lx S H H1) (h : StmA S H v s) : StmA S H1 v s := by
  obtain ⟨p, a, b, c, d⟩ := h
  exact ⟨p, a, e.1 _ _ c b, c, d⟩
theorem StmA.to0 (h : StmA S H v s) : StmA none H v s := by
  obtain ⟨p, a, b, c, d⟩ := h
  exact ⟨p, a, b, sx_none, d⟩
theorem StmA.upd (h : StmA S H v s) (hb : H b = some (.lst ys)) : StmA S (upd H b o) v s := by
  obtain ⟨p, r, q, n, d⟩ := h
  refine ⟨p, r, ?_, n, d⟩
  rw [upd_ne (fun z => by subst z; rw [hb] at q; cases q)]
  exact q
theorem RelL.imp {α : Type} {R R' : V → α → Hp → Prop} {ks : List α} (h : RelL R ys ks H) (i : ∀ y k, R y k H → R' y k H1) : RelL R' ys ks H1 := ⟨h.1, fun m y k a b => i y k (h.2 m y k a b)⟩
theorem BodyA.mono (e : Lx S H H1) (h : BodyA S H b ss) : BodyA S H1 b ss := ⟨h.1, let ⟨ys, p, q⟩ := h.2; ⟨ys, e.1 _ _ h.1 p, q.imp fun _ _ z => z.mono e⟩⟩
theorem BodyA.to0 (h : BodyA S H b ss) : BodyA none H b ss := ⟨sx_none, let ⟨ys, p, q⟩ := h.2; ⟨ys, p, q.imp fun _ _ z => z.to0⟩⟩
theorem BodyA.upd (h : BodyA S H b ss) (n : b ≠ c) (hc : H c = some (.lst zs)) : BodyA S (upd H c o) b ss := ⟨h.1, let ⟨ys, p, q⟩ := h.2; ⟨ys, by rw [upd_ne n]; exact p, q.imp fun _ _ z => z.upd hc⟩⟩
theorem BodyA.put (n : ¬ Sx S b) (hb : H b = some (.lst ys)) (r : RelL (fun v s H => StmA S H v s) zs ss H) : BodyA S (L2.upd H b (.lst zs)) b ss := ⟨n, zs, upd_same, r.imp fun _ _ z => z.upd hb⟩
theorem BodsR.mono (e : Lx S H H1) (h : BodsR S H ys bs) : BodsR S H1 ys bs := RelL.imp h fun _ _ ⟨b, p, q⟩ => ⟨b, p, q.mono e⟩
theorem BodsM.mono (e : Lx S H H1) (h : BodsM S H a as bs) : BodsM S H1 a as bs := ⟨h.na, e.1 _ _ h.na h.at_, h.nd, h.out, h.len, fun i b ss p q => (h.all i b ss p q).mono e⟩
theorem BodsM.to0 (h : BodsM S H a as bs) : BodsM none H a as bs := ⟨sx_none, h.at_, h.nd, h.out, h.len, fun i b ss p q => (h.all i b ss p q).to0⟩
theorem BodsM.upd (h : BodsM S H a as bs) (n : a ≠ c) (m : c ∉ as) (hc : H c = some (.lst zs)) : BodsM S (upd H c o) a as bs := ⟨h.na, by rw [upd_ne n]; exact h.at_, h.nd, h.out, h.len, fun i b ss p q => (h.all i b ss p q).upd (fun z => m (by rw [← z]; exact List.mem_of_getElem? p)) hc⟩
theorem BodsM.rel (h : BodsM S H a as bs) : BodsR S H (as.map V.ref) bs := ⟨by rw [List.length_map]; exact h.len, fun i y ss p q => by
  rw [List.getElem?_map] at p
  obtain ⟨b, hb, rfl⟩ := Option.map_eq_some_iff.mp p
  exact ⟨b, rfl, h.all i b ss hb q⟩⟩
theorem BodsM.body (h : BodsM S H a as bs) {i : Nat} (hi : i < bs.length) : ∃ b ss, as[i]? = some b ∧ bs[i]? = some ss ∧ BodyA S H b ss := by
  have l := h.len
  have p := List.getElem?_eq_getElem (l := as) (i := i) (by omega)
  have q := List.getElem?_eq_getElem (l := bs) (i := i) hi
  exact ⟨_, _, p, q, h.all i _ _ p q⟩
/-- a body is changed -/
theorem BodsM.set {i : Nat} (h : BodsM S H a as bs) (hi : as[i]? = some b) {ss' : List Stm} (hz : ∃ ys, H b = some (.lst ys)) (r : RelL (fun v s H => StmA S H v s) zs ss' H) : BodsM S (L2.upd H b (.lst zs)) a as (bs.set i ss') := by
  obtain ⟨ys, hb⟩ := hz
  have bm := List.mem_of_getElem? hi
  have il : i < bs.length := by rw [← h.len]; exact (List.getElem?_eq_some_iff.mp hi).1
  refine ⟨h.na, by rw [upd_ne (fun z => h.out (by rw [z]; exact bm))]; exact h.at_, h.nd, h.out, by rw [List.length_set]; exact h.len, fun m c ss p q => ?_⟩
  by_cases e : m = i
  · subst e
    rw [hi] at p
    cases p
    rw [List.getElem?_set_self il] at q
    cases q
    obtain ⟨ss0, hs0⟩ : ∃ ss0, bs[m]? = some ss0 := ⟨_, List.getElem?_eq_getElem il⟩
    exact BodyA.put (h.all m b ss0 hi hs0).1 hb r
  · rw [List.getElem?_set_ne (fun z => e z.symm)] at q
    refine (h.all m c ss p q).upd (fun z => e ?_) hb
    subst z
    have m1 := (List.getElem?_eq_some_iff.mp p).1
    have q1 := (List.getElem?_eq_some_iff.mp hi).1
    have z1 := (List.getElem?_eq_some_iff.mp p).2
    have z2 := (List.getElem?_eq_some_iff.mp hi).2
    have pw := List.pairwise_iff_getElem.mp h.nd
    rcases Nat.lt_trichotomy m i with l | l | l
    · exact (pw m i m1 q1 l (by rw [z1, z2])).elim
    · exact l
    · exact (pw i m q1 m1 l (by rw [z1, z2])).elim
theorem RelL.get {α : Type} {R : V → α → Hp → Prop} {ks : List α} (h : RelL R ys ks H) {i : Nat} (hi : i < ks.length) : ∃ y k, ys[i]? = some y ∧ ks[i]? = some k ∧ R y k H := by
  have l := h.1
  have p := List.getElem?_eq_getElem (l := ys) (i := i) (by omega)
  have q := List.getElem?_eq_getElem (l := ks) (i := i) hi
  exact ⟨_, _, p, q, h.2 i _ _ p q⟩
end
/-! an instance's fields are changed -/
section
variable {S : Dst} {H H1 : Hp} {v : V} {s : Stm} {a b x C dx : Addr} {ss : List Stm} {as : List Addr} {bs : List (List Stm)} {o : HO} {fs : List (Str × V)}
theorem BodyA.updI (h : BodyA none H b ss) (e : Lx none H H1) (hx : H x = some (.ins C dx fs)) : BodyA none (L2.upd H1 x o) b ss := by
  obtain ⟨n, ys, q, r⟩ := h
  refine ⟨n, ys, ?_, r.imp fun v s ⟨p, z1, z2, z3, z4⟩ => ⟨p, z1, ?_, z3, z4⟩⟩
  · rw [upd_ne (fun z => by rw [z, hx] at q; cases q)]
    exact e.1 _ _ sx_none q
  · rw [upd_ne (fun z => by rw [z, hx] at z2; cases z2)]
    exact e.1 _ _ sx_none z2
theorem BodsM.updI (h : BodsM none H a as bs) (hx : H x = some (.ins C dx fs)) (n : a ≠ x) (m : x ∉ as) : BodsM none (L2.upd H x o) a as bs := ⟨h.na, by rw [upd_ne n]; exact h.at_, h.nd, h.out, h.len, fun i b ss p q => (h.all i b ss p q).updI Lx.rfl0 hx⟩
end
/-! as data -/
def stD : Stm → PyData
  | none => .tuple []
  | some (w, ns) => .tuple (.str w :: ns.map .int)
section
variable {S : Dst} {H : Hp} {v : V} {s : Stm} {a b : Addr} {ss : List Stm} {as : List Addr} {bs : List (List Stm)}
theorem depth_ints (ns : List Int) : PyData.depthAll (ns.map PyData.int) ≤ 1 := by
  induction ns with
  | nil => simp [PyData.depthAll]
  | cons n ns ih => simp only [List.map_cons, PyData.depthAll, PyData.depth]; omega
theorem depth_stD : (stD s).depth ≤ 2 := by
  match s with
  | none => simp [stD, PyData.depth, PyData.depthAll]
  | some (w, ns) =>
    have := depth_ints ns
    simp only [stD, PyData.depth, PyData.depthAll]; omega
theorem depth_body : (PyData.list (ss.map stD)).depth ≤ 3 := by
  have : PyData.depthAll (ss.map stD) ≤ 2 := by
    induction ss with
    | nil => simp [PyData.depthAll]
    | cons s ss ih => have := depth_stD (s := s); simp only [List.map_cons, PyData.depthAll]; omega
  simp only [PyData.depth]; omega
theorem depth_bods : (PyData.list (bs.map fun ss => PyData.list (ss.map stD))).depth ≤ 4 := by
  have : PyData.depthAll (bs.map fun ss => PyData.list (ss.map stD)) ≤ 3 := by
    induction bs with
    | nil => simp [PyData.depthAll]
    | cons s ss ih => have := depth_body (ss := s); simp only [List.map_cons, PyData.depthAll]; omega
  simp only [PyData.depth]; omega
theorem StmA.rp (h : StmA S H v s) : Rp S H v (stD s) := by
  obtain ⟨p, rfl, q, n, l⟩ := h
  match s with
  | none => exact .tup q n (by omega) .nil
  | some (w, ns) => exact .tup q n (by omega) (.cons (.str w) (RpAll.map fun x _ => .int x))
theorem BodyA.rp (h : BodyA S H b ss) (l : ss.length ≤ 1000) : Rp S H (.ref b) (.list (ss.map stD)) := by
  obtain ⟨n, ys, q, r⟩ := h
  refine .lst q n (by rw [r.1]; omega) (RpAll.of (by rw [List.length_map]; exact r.1) fun i v d p1 p2 => ?_)
  rw [List.getElem?_map] at p2
  obtain ⟨s, hs, rfl⟩ := Option.map_eq_some_iff.mp p2
  exact (r.2 i v s p1 hs).rp
theorem BodsM.rp (h : BodsM S H a as bs) (l : bs.length ≤ 1000) (l2 : ∀ ss ∈ bs, ss.length ≤ 1000) : Rp S H (.ref a) (.list (bs.map fun ss => .list (ss.map stD))) := by
  have r := h.rel
  refine .lst h.at_ h.na (by rw [List.length_map, h.len]; omega) (RpAll.of (by rw [List.length_map, List.length_map]; exact h.len) fun i v d p1 p2 => ?_)
  rw [List.getElem?_map] at p2
  obtain ⟨s, hs, rfl⟩ := Option.map_eq_some_iff.mp p2
  obtain ⟨b, rfl, hb⟩ := r.2 i v s p1 hs
  exact hb.rp (l2 s (List.mem_of_getElem? hs))
end
/-! the parents -/
def parV (par : Nat → Option Nat) (k : Nat) : V := match par k with
  | none => .non
  | some s => .int (s : Int)
def parL (n : Nat) (par : Nat → Option Nat) : List V := (List.range n).map (parV par)
theorem parL_len {n : Nat} {par : Nat → Option Nat} : (parL n par).length = n := by simp [parL]
theorem parL_get {n : Nat} {par : Nat → Option Nat} {k : Nat} (h : k < n) : (parL n par)[k]? = some (parV par k) := by simp [parL, h]
theorem parL_set {n : Nat} {par : Nat → Option Nat} {t s : Nat} : (parL n par).set t (.int (s : Int)) = parL n (setN par t s) := by
  apply List.ext_getElem?
  intro i
  by_cases h : i < n
  · rw [parL_get h]
    by_cases e : t = i
    · subst e
      rw [List.getElem?_set_self (by rw [parL_len]; exact h)]
      simp [parV, setN]
    · rw [List.getElem?_set_ne e, parL_get h]
      simp only [parV, setN, if_neg (fun z : i = t => e z.symm)]
  · rw [List.getElem?_eq_none (by rw [List.length_set, parL_len]; omega), List.getElem?_eq_none (by rw [parL_len]; omega)]
theorem parL_none {n : Nat} : parL n (fun _ => none) = List.replicate n V.non := by
  apply List.ext_getElem?
  intro i
  by_cases h : i < n
  · rw [parL_get h]; simp [h, parV]
  · rw [List.getElem?_eq_none (by rw [parL_len]; omega), List.getElem?_eq_none (by simp; omega)]
theorem parV_non {par : Nat → Option Nat} {k : Nat} : decide (parV par k = .non) = (par k).isNone := by
  unfold parV
  cases par k <;> simp
/-! slices of tuples from 1 on -/
theorem cut1 {x : V} {xs : List V} : cutV (x :: xs) (some 1) none = xs := by
  unfold cutV HT.sIx
  simp
section
variable {K : PySem.W.Frag} {S : Dst} {σ : L2.St} {H : Hp} {ta : TE} {p : Addr} {D : Ends} {tu tz : TS} {j : Nat} {t : TT} {te : TE}
theorem ex_tl {x : V} {xs : List V} (h : Ev K S ta σ H (.ref p)) (hx : UA K S H p (x :: xs)) : EvX K S (tSl (rSlT K) ta (tPart (tC (.int 1))) tNoPart) σ H (NewU S H xs) := fun H1 e Q q =>
  h H1 e _ fun H2 e2 => ⟨1, rfl, p, x :: xs, rfl, (hx.mono (e.trans e2)).q, by
    rintro ⟨z, _⟩
    unfold HT.sIx at z
    simp at z, fun r hr => by
    rw [cut1]
    exact q _ _ (e2.trans ((e.trans e2).new hr)) ⟨r, rfl, (e.trans e2).fresh hr, (e.trans e2).ns hr, upd_same⟩⟩
theorem s_forTX {g : TG} {P : V → Hp → Prop} (h : EvX K S te σ H P) (k : ∀ v H1, Lx S H H1 → P v H1 → St K S (tSeq (tFor (iTup K (tC v)) g tu) tz) D σ H1) : St K S (tSeq (tFor (iTup K te) g tu) tz) D σ H := fun H1 e =>
  h H1 e _ fun v H2 e2 p => k v H2 (e.trans e2) p H2 (e.trans e2).refl
theorem ex_lcNT {a : Addr} {xs : List V} {tl : TE} {j : Nat} {ws : List Nat} {t : TT} (h : Ev K S tl σ H (.ref a)) (hx : UA K S H a xs) (hz : xs.length < sizeLine) (hw : ∀ x, wipe ((wipe σ ws).set j (some x)) ws = wipe σ ws)
    (Pv : Addr → Nat → List V → Hp → Prop) (h0 : ∀ D H1, ¬ Sx S D → H D = none → Lx S H H1 → H1 D = some (.lst []) → Pv D 0 [] H1)
    (hs : ∀ D i x acc H1, ¬ Sx S D → H D = none → H1 D = some (.lst acc) → xs[i]? = some x → Lx S H H1 → Pv D i acc H1 → EvTX K S t ((wipe σ ws).set j (some x)) H1 fun b H2 =>
      (b = true → EvX K S te ((wipe σ ws).set j (some x)) H2 fun y H3 => Pv D (i + 1) (acc ++ [y]) (upd H3 D (.lst (acc ++ [y])))) ∧ (b = false → Pv D (i + 1) acc H2)) :
    EvX K S (tLc (iTup K tl) (gName j) t te ws) σ H (fun v H2 => ∃ p acc, v = .ref p ∧ H p = none ∧ ¬ Sx S p ∧ H2 p = some (.lst acc) ∧ acc.length ≤ xs.length ∧ Pv p xs.length acc H2) := fun H0 e Q q => h H0 e _ fun H1 e1 => ⟨a, rfl, ⟨xs, (hx.mono (e.trans e1)).q⟩, fun Dl hD => by
  have w1 : Lx S H H1 := e.trans e1
  have nD : ¬ Sx S Dl := w1.ns hD
  have fD : H Dl = none := w1.fresh hD
  refine lc_tup (xs := xs) (fun i H' => ∃ acc, H' Dl = some (.lst acc) ∧ acc.length ≤ i ∧ Lx S H1 H' ∧ Pv Dl i acc H') ⟨[], upd_same, Nat.le_refl _, w1.new hD, h0 Dl _ nD fD (w1.trans (w1.new hD)) upd_same⟩ (fun i H' _ ⟨acc, _, _, e2, _⟩ => (hx.mono (w1.trans e2)).q) ?_ ?_
  · rintro i x H' hi ⟨acc, g1, g2, e2, p⟩
    refine ⟨hw x, hs Dl i x acc H' nD fD g1 hi (w1.trans e2) p H' e2.refl _ fun b H2 e3 pb => ?_⟩
    cases b with
    | true =>
      show te _ H2 _
      refine pb.1 rfl H2 ((w1.trans e2).trans e3).refl _ fun y H3 e4 py => ⟨acc, e4.1 _ _ nD (e3.1 _ _ nD g1), Nat.lt_of_le_of_lt g2 (Nat.lt_of_lt_of_le ((List.getElem?_eq_some_iff.mp hi).1) (Nat.le_of_lt hz)), acc ++ [y], upd_same, ?_, ?_, py⟩
      · rw [List.length_append]; exact Nat.succ_le_succ g2
      · have e5 := (e2.trans e3).trans e4
        exact e5.put nD fun u z => by rw [hD] at z; cases z
    | false =>
      show ∃ acc, _
      exact ⟨acc, e3.1 _ _ nD g1, Nat.le_succ_of_le g2, e2.trans e3, pb.2 rfl⟩
  · rintro H' ⟨acc, g1, g2, e2, p⟩
    exact q _ _ (e1.trans e2) ⟨Dl, acc, rfl, fD, nD, g1, g2, p⟩⟩

/-! [list(b) for b in bodies]: new bodies, all apart -/
def CopP (S : Dst) (H : Hp) (bs : List (List Stm)) (D : Addr) (i : Nat) (acc : List V) (H1 : Hp) : Prop := ∃ as : List Addr, acc = as.map V.ref ∧ as.Nodup ∧ D ∉ as ∧ as.length = i ∧ (∀ b ∈ as, H b = none) ∧ ∀ (m : Nat) (b : Addr) (ss : List Stm), as[m]? = some b → bs[m]? = some ss → BodyA S H1 b ss
theorem copP_step {S : Dst} {H H1 H2 H3 : Hp} {bs : List (List Stm)} {D r : Addr} {i : Nat} {acc ys : List V} {ss : List Stm} (nD : ¬ Sx S D) (e1 : Lx S H H1) (gD : H1 D = some (.lst acc)) (p : CopP S H bs D i acc H1) (hb : bs[i]? = some ss) (e : Lx S H1 H2) (e3 : Lx S H2 H3)
    (fr : H2 r = none) (nr : ¬ Sx S r) (hr : H3 r = some (.lst ys)) (rel : RelL (fun v s H => StmA S H v s) ys ss H3) : CopP S H bs D (i + 1) (acc ++ [.ref r]) (L2.upd H3 D (.lst (acc ++ [.ref r]))) := by
  obtain ⟨as, rfl, nd, out, len, fresh, all⟩ := p
  have rD : r ≠ D := fun z => by rw [z, e.1 _ _ nD gD] at fr; cases fr
  have alive : ∀ b ∈ as, ∃ o, H1 b = some o := fun b hb' => by
    obtain ⟨m, lm, em⟩ := List.mem_iff_getElem.mp hb'
    have il := (List.getElem?_eq_some_iff.mp hb).1
    obtain ⟨n, ys', q, _⟩ := all m b (bs[m]'(by omega)) (by rw [← em]; exact List.getElem?_eq_getElem lm) (List.getElem?_eq_getElem (by omega))
    exact ⟨_, q⟩
  have nin : r ∉ as := fun z => by
    obtain ⟨m, lm, em⟩ := List.mem_iff_getElem.mp z
    have il := (List.getElem?_eq_some_iff.mp hb).1
    obtain ⟨n, ys', q, _⟩ := all m r (bs[m]'(by omega)) (by rw [← em]; exact List.getElem?_eq_getElem lm) (List.getElem?_eq_getElem (by omega))
    rw [e.1 _ _ n q] at fr
    cases fr
  have gD3 := e3.1 _ _ nD (e.1 _ _ nD gD)
  refine ⟨as ++ [r], by simp, ?_, ?_, by simp [len], ?_, ?_⟩
  · rw [List.nodup_append]
    exact ⟨nd, by simp, fun a ha b hb' z => by rw [List.mem_singleton] at hb'; subst hb'; subst z; exact nin ha⟩
  · rw [List.mem_append, List.mem_singleton]
    rintro (z | z)
    · exact out z
    · exact rD z.symm
  · intro b hb'
    rw [List.mem_append, List.mem_singleton] at hb'
    rcases hb' with z | z
    · exact fresh b z
    · subst z
      exact (e1.trans e).fresh fr
  · intro m b ss' hm hs
    have ex : ∀ {b ss'}, BodyA S H3 b ss' → b ≠ D → BodyA S (L2.upd H3 D (.lst (as.map V.ref ++ [.ref r]))) b ss' := fun h n => h.upd n gD3
    by_cases lm : m < as.length
    · rw [List.getElem?_append_left lm] at hm
      exact ex ((all m b ss' hm hs).mono (e.trans e3)) fun z => out (by rw [← z]; exact List.mem_of_getElem? hm)
    · have l2 := (List.getElem?_eq_some_iff.mp hm).1
      rw [List.length_append, List.length_singleton] at l2
      have em : m = as.length := by omega
      subst em
      rw [List.getElem?_append_right (Nat.le_refl _), Nat.sub_self] at hm
      cases hm
      rw [len, hb] at hs
      cases hs
      exact ex ⟨nr, ys, hr, rel⟩ rD
theorem copP_end {S : Dst} {H H2 : Hp} {bs : List (List Stm)} {q : Addr} {acc : List V} (nq : ¬ Sx S q) (hq : H2 q = some (.lst acc)) (p : CopP S H bs q bs.length acc H2) : ∃ as, BodsM S H2 q as bs ∧ ∀ b ∈ as, H b = none := by
  obtain ⟨as, rfl, nd, out, len, fresh, all⟩ := p
  exact ⟨as, ⟨nq, hq, nd, out, len, all⟩, fresh⟩
theorem ex_copyL {xs : List V} {tl : TE} {a : Addr} {j : Nat} {ws : List Nat} {bs : List (List Stm)} (h : Ev K S tl σ H (.ref a)) (hx : LA K S H a xs) (hb : BodsR S H xs bs) (lb : bs.length ≤ 1000) (lj : j < (wipe σ ws).length) (hw : ∀ x, wipe ((wipe σ ws).set j (some x)) ws = wipe σ ws) :
    EvX K S (tLc (iList K tl) (gName j) tYes (tCB (rLst K) (tCons (tVar j) tNil)) ws) σ H (fun v H2 => ∃ q as, v = .ref q ∧ H q = none ∧ BodsM S H2 q as bs ∧ ∀ b ∈ as, H b = none) := by
  have lx := hb.1
  refine (ex_lcN h hx (by rw [lx, sizeLine_eq]; omega) hw (fun D i acc H1 => CopP S H bs D i acc H1) (fun D H1 _ _ _ _ => ⟨[], rfl, by simp, by simp, rfl, fun _ z => by simp at z, fun m b ss z => by simp at z⟩) ?_).imp ?_
  · intro D i x acc H1 nD fD gD hi e p H2 e2 Q q
    refine q true H2 e2.refl ⟨fun _ H3 e3 Q3 q3 => ?_, fun z => nomatch z⟩
    have il : i < bs.length := by rw [← lx]; exact (List.getElem?_eq_some_iff.mp hi).1
    obtain ⟨b, rfl, nb, ys, hys, rel⟩ := hb.2 i x _ hi (List.getElem?_eq_getElem il)
    have e13 := e2.trans e3
    have rel3 : RelL (fun v s H => StmA S H v s) ys _ H3 := rel.imp fun _ _ z => z.mono (e.trans e13)
    refine ex_cb (ea_cons (ev_var (by rw [List.getElem?_set_self lj])) ea_nil) (rc_list (LA.of ((e.trans e13).1 _ _ nb hys) nb)) H3 (e.trans e13).refl _ fun y H4 e4 r => q3 _ _ e4 ?_
    obtain ⟨r, rfl, fr, nr, hr⟩ := r
    exact copP_step nD e gD p (List.getElem?_eq_getElem il) e13 e4 fr nr hr (rel3.imp fun _ _ z => z.mono e4)
  · rintro v G f ⟨q, acc, hv, fq, nq, hq, _, pe⟩
    rw [lx] at pe
    obtain ⟨as, z1, z2⟩ := copP_end nq hq pe
    exact ⟨q, as, hv, fq, z1, z2⟩
theorem ex_copyT {xs : List V} {tl : TE} {a : Addr} {j : Nat} {ws : List Nat} {bs : List (List Stm)} (h : Ev K S tl σ H (.ref a)) (hx : UA K S H a xs) (hb : BodsR S H xs bs) (lb : bs.length ≤ 1000) (lj : j < (wipe σ ws).length) (hw : ∀ x, wipe ((wipe σ ws).set j (some x)) ws = wipe σ ws) :
    EvX K S (tLc (iTup K tl) (gName j) tYes (tCB (rLst K) (tCons (tVar j) tNil)) ws) σ H (fun v H2 => ∃ q as, v = .ref q ∧ H q = none ∧ BodsM S H2 q as bs ∧ ∀ b ∈ as, H b = none) := by
  have lx := hb.1
  refine (ex_lcNT h hx (by rw [lx, sizeLine_eq]; omega) hw (fun D i acc H1 => CopP S H bs D i acc H1) (fun D H1 _ _ _ _ => ⟨[], rfl, by simp, by simp, rfl, fun _ z => by simp at z, fun m b ss z => by simp at z⟩) ?_).imp ?_
  · intro D i x acc H1 nD fD gD hi e p H2 e2 Q q
    refine q true H2 e2.refl ⟨fun _ H3 e3 Q3 q3 => ?_, fun z => nomatch z⟩
    have il : i < bs.length := by rw [← lx]; exact (List.getElem?_eq_some_iff.mp hi).1
    obtain ⟨b, rfl, nb, ys, hys, rel⟩ := hb.2 i x _ hi (List.getElem?_eq_getElem il)
    have e13 := e2.trans e3
    have rel3 : RelL (fun v s H => StmA S H v s) ys _ H3 := rel.imp fun _ _ z => z.mono (e.trans e13)
    refine ex_cb (ea_cons (ev_var (by rw [List.getElem?_set_self lj])) ea_nil) (rc_list (LA.of ((e.trans e13).1 _ _ nb hys) nb)) H3 (e.trans e13).refl _ fun y H4 e4 r => q3 _ _ e4 ?_
    obtain ⟨r, rfl, fr, nr, hr⟩ := r
    exact copP_step nD e gD p (List.getElem?_eq_getElem il) e13 e4 fr nr hr (rel3.imp fun _ _ z => z.mono e4)
  · rintro v G f ⟨q, acc, hv, fq, nq, hq, _, pe⟩
    rw [lx] at pe
    obtain ⟨as, z1, z2⟩ := copP_end nq hq pe
    exact ⟨q, as, hv, fq, z1, z2⟩
end
end Fw
namespace Fw
open PySem PySem.Spec PyProof.Rows L2
/-! displays of statements -/
def AllS (S : Dst) (n : Nat) (vs : List V) (H : Hp) : Prop := vs.length = n ∧ ∀ v ∈ vs, ∃ s, StmA S H v s
section
variable {K : PySem.W.Frag} {S : Dst} {σ : L2.St} {H : Hp} {ta tb : TE} {tas ts : TA} {n m : Nat} {s : Stm}
theorem AllS.mono {S : Dst} {n : Nat} {vs : List V} {H H1 : Hp} (e : Lx S H H1) (h : AllS S n vs H) : AllS S n vs H1 := ⟨h.1, fun v hv => let ⟨s, q⟩ := h.2 v hv; ⟨s, q.mono e⟩⟩
theorem ex_stm (s : Stm) (h : EvA K S ts σ H (stV s)) (l : (stV s).length ≤ 20) : EvX K S (tTup ts) σ H (fun v H2 => StmA S H2 v s) := (ex_tup h (by rw [sizeLine_eq]; omega)).imp fun v H2 _ ⟨p, a, b, c, d⟩ => ⟨p, a, d, c, l⟩
theorem eax_nilS : EvAX K S tNil σ H (AllS S 0) := ea_nil.toX.imp fun vs H2 _ z => ⟨by rw [z]; rfl, fun v hv => by rw [z] at hv; cases hv⟩
theorem eax_stm (s : Stm) (h : EvA K S ts σ H (stV s)) (l : (stV s).length ≤ 20) (r : EvAX K S tas σ H (AllS S n)) : EvAX K S (tCons (tTup ts) tas) σ H (AllS S (n + 1)) :=
  eax_cons (ex_stm s h l) fun v H1 e sv => fun H2 e2 Q q => r H2 (e.trans e2) Q fun vs H3 e3 z => q vs H3 e3 ⟨by rw [List.length_cons, z.1], fun u hu => by
    rcases List.mem_cons.mp hu with rfl | hu
    · exact ⟨s, sv.mono (e2.trans e3)⟩
    · exact z.2 u hu⟩
abbrev NewS (S : Dst) (n : Nat) : V → Hp → Prop := fun v H2 => ∃ p vs, v = .ref p ∧ ¬ Sx S p ∧ H2 p = some (.lst vs) ∧ AllS S n vs H2
theorem ex_lstS (h : EvAX K S tas σ H (AllS S n)) (hn : n ≤ 1000) : EvX K S (tLst tas) σ H (NewS S n) := (ex_lstX h (fun vs H2 z => by rw [z.1, sizeLine_eq]; omega)).imp fun v H2 _ ⟨vs, H3, z, _, e, p, a, b, c, d⟩ => ⟨p, vs, a, c, d, z.mono e⟩
theorem ex_catS (h1 : EvX K S ta σ H (NewS S n)) (h2 : EvX K S tb σ H (NewS S m)) (hn : n + m ≤ 1000) : EvX K S (tOp rCat ta tb) σ H (NewS S (n + m)) := fun H1 e Q q =>
  h1 H1 e _ fun v H2 e2 ⟨p, vs, hv, np, hp, az⟩ => h2 H2 (e.trans e2) _ fun w H3 e3 ⟨r, ws, hw, nr, hr, aw⟩ => by
    subst hv
    subst hw
    refine rvx_cat (K := K) (e3.1 _ _ np hp) np hr nr (by rw [az.1, aw.1, sizeLine_eq]; omega) H3 ((e.trans e2).trans e3).refl _ fun z H4 e4 ⟨u, a, b, c, d⟩ => q z H4 ((e2.trans e3).trans e4) ⟨u, vs ++ ws, a, c, d, ?_⟩
    refine ⟨by rw [List.length_append, az.1, aw.1], fun x hx => ?_⟩
    rcases List.mem_append.mp hx with hx | hx
    · exact (az.mono (e3.trans e4)).2 x hx
    · exact (aw.mono e4).2 x hx
end
section
variable {S : Dst} {H H1 : Hp} {a b : Addr} {ss : List Stm} {ys : List V} {s : Stm} {v : V}
theorem RelL.ins {α : Type} {R : V → α → Hp → Prop} {ks : List α} {y : V} {k : α} (i : Nat) (h : RelL R ys ks H) (hy : R y k H) (l : i ≤ ks.length) : RelL R (ys.take i ++ [y] ++ ys.drop i) (ks.take i ++ [k] ++ ks.drop i) H := by
  have hl := h.1
  refine ⟨by simp [hl], fun m z q p1 p2 => ?_⟩
  have l1 : (ys.take i ++ [y]).length = i + 1 := by simp [hl]; omega
  have l2 : (ks.take i ++ [k]).length = i + 1 := by simp; omega
  by_cases c1 : m < i + 1
  · rw [List.getElem?_append_left (by rw [l1]; exact c1)] at p1
    rw [List.getElem?_append_left (by rw [l2]; exact c1)] at p2
    by_cases c2 : m < i
    · rw [List.getElem?_append_left (by simp [hl]; omega), List.getElem?_take_of_lt c2] at p1
      rw [List.getElem?_append_left (by simp; omega), List.getElem?_take_of_lt c2] at p2
      exact h.2 m z q p1 p2
    · have e : m = i := by omega
      subst e
      rw [List.getElem?_append_right (by simp; omega)] at p1 p2
      rw [show m - (ys.take m).length = 0 by simp [hl]; omega] at p1
      rw [show m - (ks.take m).length = 0 by simp; omega] at p2
      cases p1
      cases p2
      exact hy
  · rw [List.getElem?_append_right (by rw [l1]; omega), l1, List.getElem?_drop] at p1
    rw [List.getElem?_append_right (by rw [l2]; omega), l2, List.getElem?_drop] at p2
    exact h.2 _ z q p1 p2
theorem RelL.erase {α : Type} {R : V → α → Hp → Prop} {ks : List α} (i : Nat) (h : RelL R ys ks H) : RelL R (ys.eraseIdx i) (ks.eraseIdx i) H := by
  have hl := h.1
  refine ⟨by rw [List.length_eraseIdx, List.length_eraseIdx, hl], fun m z q p1 p2 => ?_⟩
  rw [List.getElem?_eraseIdx] at p1 p2
  by_cases c : m < i
  · rw [if_pos c] at p1 p2
    exact h.2 m z q p1 p2
  · rw [if_neg c] at p1 p2
    exact h.2 _ z q p1 p2
end
end Fw
namespace Fw
open PySem PySem.Spec PyProof.Rows L2
section
variable {K : PySem.W.Frag} {S : Dst} {σ : L2.St} {H : Hp} {ta tb te : TE} {tas ts : TA} {n m : Nat} {s : Stm} {l : Addr} {xs : List V} {D : Ends}
/-- l.insert(i, v), both told by what has effects -/
theorem s_insX1 {P1 : V → Hp → Prop} (hl : H l = some (.lst xs)) (ns : ¬ Sx S l) (ho : Ev K S ta σ H (.ref l)) (hi : EvX K S tb σ H P1) (hz : xs.length < sizeLine)
    (k : ∀ i H1, Lx S H H1 → P1 i H1 → ∃ j : Nat, i = .int (j : Int) ∧ j ≤ xs.length ∧ EvX K S te σ H1 (fun v H2 => D.nx σ (L2.upd H2 l (.lst (xs.take j ++ [v] ++ xs.drop j))))) :
    St K S (tDrop (tBM K "list" (fun x vs H Q => ∃ (l : Addr) (xs : List V) (i : Int) (y : V), x = .ref l ∧ vs = [.int i, y] ∧ H l = some (.lst xs) ∧ xs.length < sizeLine ∧ 0 ≤ i ∧ i < 2 ^ 63 ∧ Q .non (upd H l (.lst (xs.take i.toNat ++ [y] ++ xs.drop i.toNat)))) ta (tCons tb (tCons te tNil)))) D σ H := fun H1 e => ho H1 e _ fun H2 e2 =>
  ⟨.inl ⟨rfl, _, SqL.of ((e.trans e2).1 l _ ns hl)⟩, hi H2 (e.trans e2) _ fun i H3 e3 p => by
    have e13 := (e.trans e2).trans e3
    obtain ⟨j, rfl, lj, kk⟩ := k i H3 e13 p
    have lz : sizeLine = 16777216 := sizeLine_eq
    exact kk H3 e13.refl _ fun v H4 e4 q => ⟨l, xs, (j : Int), v, rfl, rfl, (e13.trans e4).1 l _ ns hl, hz, by omega, by omega, q⟩⟩
/-- l.pop(i) -/
theorem s_popX1 {i : Int} {j : Nat} (hl : H l = some (.lst xs)) (ns : ¬ Sx S l) (ho : Ev K S ta σ H (.ref l)) (hi : Ev K S tb σ H (.int i)) (hj : i = (j : Int)) (lj : j < xs.length) (hz : xs.length < sizeLine) (k : ∀ H1, Lx S H H1 → D.nx σ (L2.upd H1 l (.lst (xs.eraseIdx j)))) :
    St K S (tDrop (tBM K "list" rPopAt ta (tCons tb tNil))) D σ H := fun H1 e => ho H1 e _ fun H2 e2 =>
  ⟨.inl ⟨rfl, _, SqL.of ((e.trans e2).1 l _ ns hl)⟩, hi H2 (e.trans e2) _ fun H3 e3 => by
    have e13 := (e.trans e2).trans e3
    subst hj
    have lz : sizeLine = 16777216 := sizeLine_eq
    exact ⟨l, xs, (j : Int), j, xs[j], rfl, rfl, e13.1 l _ ns hl, by omega, by omega, (ixN_seq (ixN_nat lj)).1, List.getElem?_eq_getElem lj, k H3 e13⟩⟩
/-- l.append(l.pop(0)) -/
theorem s_rot1 {x : V} (hl : H l = some (.lst (x :: xs))) (ns : ¬ Sx S l) (ho : Ev K S ta σ H (.ref l)) (ho' : ∀ H1, Lx S H H1 → tb σ H1 = ta σ H1) (hz : xs.length + 1 < sizeLine) (k : ∀ H1, Lx S H H1 → D.nx σ (L2.upd (L2.upd H1 l (.lst xs)) l (.lst (xs ++ [x])))) :
    St K S (tDrop (tBM K "list" rAppend ta (tCons (tBM K "list" rPopAt tb (tCons (tC (.int 0)) tNil)) tNil))) D σ H := fun H1 e => ho H1 e _ fun H2 e2 =>
  ⟨.inl ⟨rfl, _, SqL.of ((e.trans e2).1 l _ ns hl)⟩, by
    have e12 := e.trans e2
    show tb σ H2 _
    rw [ho' H2 e12]
    exact ho H2 e12 _ fun H3 e3 => ⟨.inl ⟨rfl, _, SqL.of ((e12.trans e3).1 l _ ns hl)⟩, by
      have e13 := e12.trans e3
      have hl3 := e13.1 l _ ns hl
      exact ⟨l, x :: xs, 0, 0, x, rfl, rfl, hl3, by decide, by decide, (ixN_seq (ixN_nat (by simp))).1, rfl, ⟨l, xs, x, rfl, rfl, by rw [show (x :: xs).eraseIdx 0 = xs from rfl]; exact upd_same, by omega, k H3 e13⟩⟩⟩⟩
end
end Fw

namespace Fk
open PySem PySem.Spec PyProof.Rows L2 Fw
section
variable {w : World} {K : PySem.W.Frag} {mg : Str → Option Value} {base : Heap}
open NdefX
theorem okb (T : Txt K mg w) : Ok P w K mg base CX0 1 (He.fAd K ("ForkError", some "__init__")) ["self", "reason"] (sp_base K (He.ga K "ForkError")) := by
  obtain ⟨fd, M⟩ := S_ForkError T
  refine okSup (tgt := .builtin "ValueError.__init__") (TG := fun x C ws H1 R => ws.length ≤ 1000 ∧ H1 x = some (exo x C none) ∧ R H1) (N := ["self", "reason", "__class__"]) M (nscope_by (by decide +kernel)) rfl rfl rfl rfl (n_super T) (by decide +kernel) (fun _ _ _ _ us hl => match us, hl with | [_, _], _ => rfl) (fun _ _ _ => ⟨_, rfl⟩) (fun _ => rfl) (fun _ => rfl) (fun vs H Q E h => ?_) (fun A outer s H vs Q E hr h => ?_)
  · obtain ⟨e, C, v, rfl, _⟩ := h; rfl
  · obtain ⟨e, C, v, rfl, sc, hno, he, k⟩ := h
    refine ⟨e, C, _, _, rfl, he, sc, pa_cons (pv 1) pa_nil, pss_one (ps_ost (pv 0) (pv 1)), tgt_val rfl (nothird T), ?_⟩
    exact ⟨v, rfl, by simp, he, ost_first rfl rfl sc.ox hno he fun H2 X => k _ X⟩
theorem okx_BadProgram (T : Txt K mg w) : Ok P w K mg base CX0 2 (He.fAd K ("BadProgram", some "__init__")) ["self", "slot", "at"] (sp_exc (He.ga K "BadProgram") "bad program" ["slot", "at"]) := by
  obtain ⟨fd, M⟩ := S_BadProgram T
  refine okSup (k := 1) (tgt := .ref (He.fAd K ("ForkError", some "__init__"))) (TG := fun x C ws H1 R => sp_base K (He.ga K "ForkError") (.ref x :: ws) H1 (fun _ H2 => R H2) E0) (N := ["self", "slot", "at", "__class__"]) M (nscope_by (by decide +kernel)) rfl rfl rfl rfl (n_super T) (by decide +kernel) (fun _ _ _ _ us hl => match us, hl with | [_, _, _], _ => rfl) (fun _ _ _ => ⟨_, rfl⟩) (fun _ => rfl) (fun _ => rfl) (fun vs H Q E h => ?_) (fun A outer s H vs Q E hr h => ?_)
  · obtain ⟨e, ws, rfl, hl, _⟩ := h
    show ws.length + 1 = _
    rw [hl]
    rfl
  · obtain ⟨e, ws, rfl, hl, he, k⟩ := h
    obtain ⟨w0, w1, rfl⟩ : ∃ w0 w1, ws = [w0, w1] := match ws, hl with | [w0, w1], _ => ⟨w0, w1, rfl⟩
    refine ⟨e, _, _, _, rfl, he, sc_BadProgram T, pa_cons pe_str pa_nil, pss_cons (ps_ost (pv 0) (pv 1)) (pss_one (ps_ost (pv 0) (pv 2))), tgt_own rfl (nothird T) (ti_base T) (fi_base T) hr (okb T).r, ?_⟩
    refine ⟨e, _, _, rfl, scb_BadProgram T, nf_BadProgram_reason T, he, fun H0 X0 => ?_⟩
    refine ost_next rfl rfl (ox_BadProgram T) (nf_BadProgram_slot T) X0 (by simp) fun H1 X1 => ?_
    exact ost_next rfl rfl (ox_BadProgram T) (nf_BadProgram_at T) X1 (by simp) fun H2 X2 => k _ X2
theorem okx_TooMany (T : Txt K mg w) : Ok P w K mg base CX0 2 (He.fAd K ("TooMany", some "__init__")) ["self", "most"] (sp_exc (He.ga K "TooMany") "too many tasks" ["most"]) := by
  obtain ⟨fd, M⟩ := S_TooMany T
  refine okSup (k := 1) (tgt := .ref (He.fAd K ("ForkError", some "__init__"))) (TG := fun x C ws H1 R => sp_base K (He.ga K "ForkError") (.ref x :: ws) H1 (fun _ H2 => R H2) E0) (N := ["self", "most", "__class__"]) M (nscope_by (by decide +kernel)) rfl rfl rfl rfl (n_super T) (by decide +kernel) (fun _ _ _ _ us hl => match us, hl with | [_, _], _ => rfl) (fun _ _ _ => ⟨_, rfl⟩) (fun _ => rfl) (fun _ => rfl) (fun vs H Q E h => ?_) (fun A outer s H vs Q E hr h => ?_)
  · obtain ⟨e, ws, rfl, hl, _⟩ := h
    show ws.length + 1 = _
    rw [hl]
    rfl
  · obtain ⟨e, ws, rfl, hl, he, k⟩ := h
    obtain ⟨w0, rfl⟩ : ∃ w0, ws = [w0] := match ws, hl with | [w0], _ => ⟨w0, rfl⟩
    refine ⟨e, _, _, _, rfl, he, sc_TooMany T, pa_cons pe_str pa_nil, pss_one (ps_ost (pv 0) (pv 1)), tgt_own rfl (nothird T) (ti_base T) (fi_base T) hr (okb T).r, ?_⟩
    refine ⟨e, _, _, rfl, scb_TooMany T, nf_TooMany_reason T, he, fun H0 X0 => ?_⟩
    exact ost_next rfl rfl (ox_TooMany T) (nf_TooMany_most T) X0 (by simp) fun H1 X1 => k _ X1
end
end Fk
namespace Fk
open PySem PySem.Spec PyProof.Rows L2 Fw
local macro_rules | `(tactic| walk_at "ev") => `(tactic| first
  | exact ev_var rfl
  | exact ev_c
  | exact rv_I0
  | exact rv_eq rfl
  | exact rv_ne rfl
  | exact rv_isN
  | exact rv_notN
  | exact ea_nil
  | exact rc_int
  | exact rv_ixL (by assumption) (by first | assumption | rfl)
  | exact rv_ixT (by assumption) (by first | assumption | rfl)
  | exact rc_len (by assumption)
  | exact rc_lenT (by assumption)
  | exact rv_I (by first | assumption | (constructor <;> decide) | decide)
  | exact rv_I (.inr (by constructor <;> decide))
  | exact ru_U
  | assumption
  | (refine' ev_op ?a ?b ?c; (case a => walk_at "ev"); (case b => walk_at "ev"); (case c => walk_at "ev"))
  | (refine' ea_cons ?a ?b; (case a => walk_at "ev"); (case b => walk_at "ev"))
  | (refine' et_test ?a; (case a => walk_at "ev"))
  | (refine' et_B ?a; (case a => walk_at "ev"))
  | (refine' et_not ?a; (case a => walk_at "ev"))
  | (refine' ev_notV ?a; (case a => walk_at "ev"))
  | (refine' ev_un ?a ?b; (case a => walk_at "ev"); (case b => walk_at "ev"))
  | (refine' ev_cb ?a ?b; (case a => walk_at "ev"); (case b => walk_at "ev"))
  | (refine' et_and ?a (fun hand => ?b); (case a => walk_at "ev"); (case b => walk_at "ev"))
  | (refine' et_or ?a (fun hor => ?b); (case a => walk_at "ev"); (case b => walk_at "ev"))
  | (refine' ev_andV ?a (fun hand => ?b); (case a => walk_at "ev"); (case b => walk_at "ev"))
  | (refine' ev_orV ?a (fun hor => ?b); (case a => walk_at "ev"); (case b => walk_at "ev")))
local macro_rules | `(tactic| walk_at "asg") => `(tactic| (first | (refine' s_asg ?a ?b; (case a => walk_at "ev"); dsimp only [List.set]) | (refine' s_asg1 ?a ?b; (case a => walk_at "ev"); dsimp only [List.set])))
local macro_rules | `(tactic| walk_at "if") => `(tactic| (first | (refine' s_if ?a ?b ?c; (case a => walk_at "ev")) | (refine' s_ifc ?a ?b ?c; (case a => walk_at "ev")) | (refine' s_if1 ?a ?b ?c; (case a => walk_at "ev"))))
local macro_rules | `(tactic| walk_at "ret") => `(tactic| (refine' s_ret ?a ?b; (case a => walk_at "ev")))
local macro_rules | `(tactic| walk_at "setL") => `(tactic| (first | (refine' s_setL ?a ?b ?c ?d ?e ?f ?g; (case a => walk_at "ev"); (case b => walk_at "ev"); (case c => walk_at "ev"); (case d => first | assumption | exact upd_same); (case e => first | rfl | assumption); (case f => first | assumption | exact sx_none); (try rw [upd_upd]); dsimp only [List.set]) | (refine' s_setL1 ?a ?b ?c ?d ?e ?f ?g; (case a => walk_at "ev"); (case b => walk_at "ev"); (case c => walk_at "ev"); (case d => first | assumption | exact upd_same); (case e => first | rfl | assumption); (case f => first | assumption | exact sx_none); (try rw [upd_upd]); dsimp only [List.set])))
section
variable {w : World} {K : PySem.W.Frag} {mg : Str → Option Value} {base : Heap}
/-! is_statement -/
def a_isst : List V → Hp → Dst → (V → Hp → Prop) → Prop := fun vs H S PP => S = none ∧ ∃ (w : Str) (n : Nat), vs = [.str w, .int (n : Int)] ∧ PP = fun v _ => v = .bl (isStB w n)
theorem ok_is_statement (T : Txt K mg w) : Ok P w K mg base CX0 1 (He.fAd K ("is_statement", none)) ["word", "count"] (sp_x a_isst) := by
  refine okD (F_is_statement T) sc_is_statement (fun _ _ _ _ _ _ us hl => match us, hl with | [_, _], _ => rfl) (fun vs H Q E h => ?_) (fun cdv A outer s H vs Q E hr h => ?_)
  · obtain ⟨S, PP, ⟨rfl, w0, n, rfl, _⟩, _⟩ := h; rfl
  · obtain ⟨S, PP, ⟨rfl, w0, n, rfl, rfl⟩, _, k⟩ := h
    obtain ⟨t_BEAR, g_BEAR'⟩ := g_BEAR T
    refine ⟨_, (pss_cons (ps_if (pt_cmpR (inK K rfl) (pv 0) (pe_glob (v := V.ref (He.ga K "WAITS")) rfl (g_WAITS T) rfl) (by rfl))
      (pss_one (ps_ret (pe_cmpR op_ge (pv 1) pe_int (nomark _))))
      pss_nil)
      (pss_one (ps_ret (pe_and (pe_cmpR op_eq (pv 0) (pe_glob (v := V.str "bear") rfl g_BEAR' ⟨_, rfl⟩) (nomark _)) (pe_one (pe_cmpR op_eq (pv 1) pe_int (nomark _))))))), ?_⟩
    refine go (K := K) (σ' := [some (.str w0), some (.int (n : Int))]) rfl ?_
    unfold isStB at k
    have em : (if false = true then !inV (V.str w0) [V.str "wait", V.str "any"] else inV (V.str w0) [V.str "wait", V.str "any"]) = decide (w0 = "wait" ∨ w0 = "any") := by
      rw [if_neg Bool.false_ne_true]
      simp only [inV, eqV, List.any_cons, List.any_nil, Bool.or_false]
      rw [Bool.eq_iff_iff, Bool.or_eq_true, decide_eq_true_iff, beq_iff_eq, beq_iff_eq]
      exact ⟨fun z => z.imp Eq.symm Eq.symm, fun z => z.imp Eq.symm Eq.symm⟩
    refine s_if (b := decide (w0 = "wait" ∨ w0 = "any")) (et_is (et_test (ev_op (ev_var rfl) ev_c (rv_inT (neg := false) (UA.of0 (u_WAITS T H)) rfl rfl))) em) (fun hb => ?_) (fun hb => s_next ?_)
    · rw [if_pos (of_decide_eq_true hb)] at k
      exact s_ret (ev_op (ev_var rfl) ev_c rv_I0) fun H1 e => k _ _ e (by congr 1; rw [Bool.eq_iff_iff]; simp; omega)
    · rw [if_neg (of_decide_eq_false hb)] at k
      exact s_ret (ev_andV (ev_op (ev_var rfl) ev_c (rv_eq rfl)) fun _ => ev_op (ev_var rfl) ev_c (rv_eq rfl)) fun H1 e => k _ _ e (by congr 1; rw [Bool.eq_iff_iff]; simp; omega)
/-! is_valid -/
def a_isvalid : List V → Hp → Dst → (V → Hp → Prop) → Prop := fun vs H S PP => S = none ∧ ∃ (v : V) (q : Addr) (s : Stm) (n last : Nat) (par : Nat → Option Nat), vs = [v, .int (last : Int), .ref q] ∧ StmA none H v s ∧ H q = some (.lst (parL n par)) ∧ PP = fun v _ => v = .bl (validB n last par s)
theorem ok_is_valid (T : Txt K mg w) : Ok P w K mg base CX0 2 (He.fAd K ("is_valid", none)) ["statement", "last", "parents"] (sp_x a_isvalid) := by
  refine okD (F_is_valid T) sc_is_valid (fun _ _ _ _ _ _ us hl => match us, hl with | [_, _, _], _ => rfl) (fun vs H Q E h => ?_) (fun cdv A outer s H vs Q E hr h => ?_)
  · obtain ⟨S, PP, ⟨rfl, v, q, s, n, last, par, rfl, _⟩, _⟩ := h; rfl
  · obtain ⟨S, PP, ⟨rfl, v, q, s, n, last, par, rfl, ⟨p, rfl, hp, _, hl⟩, hq, rfl⟩, _, k⟩ := h
    obtain ⟨t_BEAR, g_BEAR'⟩ := g_BEAR T
    refine ⟨_, (pss_cons (ps_if (PW.pt (pw_or (pt_cmpR op_eq (pe_callB (lenK K rfl) (by rfl) (n_len T) (by decide +kernel) (pa_cons (pv 0) pa_nil)) pe_int (nomark _)) (pw_or1 (pt_not (pt_val (pe_callO (ok_is_statement T) (hr.mono (by first | decide | omega)) rfl (g_is_statement T) pass0 (pa_cons (pe_ix (ixU K rfl) (pv 0) pe_int (fun _ _ => rfl)) (pa_cons (pe_op op_sub (pe_callB (lenK K rfl) (by rfl) (n_len T) (by decide +kernel) (pa_cons (pv 0) pa_nil)) pe_int) pa_nil))))))))
      (pss_one (ps_ret pe_bl))
      pss_nil)
      (pss_cons (ps_for PassesOwn.never rfl (piUK K rfl (pe_slice (slUK K rfl) (pv 0) (po_some pe_int) po_none)) (pg_name (i := 3) sc_is_valid.nd rfl (Or.inl rfl))
      (pss_one (ps_if (pt_not (pt_chain op_le op_lt pe_int (pv 3) (pe_callB (lenK K rfl) (by rfl) (n_len T) (by decide +kernel) (pa_cons (pv 2) pa_nil))))
      (pss_one (ps_ret pe_bl))
      pss_nil)))
      (pss_cons (ps_if (pt_cmpR op_ne (pe_ix (ixU K rfl) (pv 0) pe_int (fun _ _ => rfl)) (pe_glob (v := V.str "bear") rfl g_BEAR' ⟨_, rfl⟩) (nomark _))
      (pss_one (ps_ret pe_bl))
      pss_nil)
      (pss_one (ps_ret (pe_and (pe_cmpR op_gt (pe_ix (ixU K rfl) (pv 0) pe_int (fun _ _ => rfl)) (pv 1) (nomark _)) (pe_one (pe_cmpR op_isN (pe_ix (ixL K rfl) (pv 2) (pe_ix (ixU K rfl) (pv 0) pe_int (fun _ _ => rfl)) (fun _ _ => rfl)) pe_non (nomark _))))))))), ?_⟩
    refine go (K := K) (σ' := [some (.ref p), some (.int (last : Int)), some (.ref q), none]) rfl ?_
    have lq : ∀ {σ : L2.St} {t0 : TE} {H' : Hp}, Lx none H H' → Ev K none t0 σ H' (.ref q) → Ev K none (tCB (rLn K) (tCons t0 tNil)) σ H' (.int (n : Int)) := fun e h => ev_is (ev_cb (ea_cons h ea_nil) (rc_len (LA.of (e.1 _ _ sx_none hq) sx_none))) (by rw [parL_len])
    match s, hp, k with
    | none, hp, k =>
      exact s_if (b := true) (et_is (et_or (c := false) (et_test (ev_op (ev_cb (ea_cons (ev_var rfl) ea_nil) (rc_lenT (UA.of hp sx_none))) ev_c (rv_eq rfl))) fun z => nomatch z) rfl) (fun _ => s_ret ev_c fun H1 e => k _ _ e rfl) (fun z => nomatch z)
    | some (w0, ns), hp, k =>
      have lp : ∀ {σ : L2.St} {t0 : TE} {H' : Hp}, Lx none H H' → Ev K none t0 σ H' (.ref p) → Ev K none (tCB (rLn K) (tCons t0 tNil)) σ H' (.int ((ns.length : Int) + 1)) := fun e h => ev_is (ev_cb (ea_cons h ea_nil) (rc_lenT (UA.of (e.1 _ _ sx_none hp) sx_none))) (by simp [stV])
      have p0 : ∀ {σ : L2.St} {t0 : TE} {H' : Hp}, Lx none H H' → Ev K none t0 σ H' (.ref p) → Ev K none (tOp (rIxT K) t0 (tC (.int 0))) σ H' (.str w0) := fun e h => ev_op h ev_c (rv_ixT (UA.of (e.1 _ _ sx_none hp) sx_none) (at_of (j := 0) rfl rfl))
      have vb0 : validB n last par (some (w0, ns)) = (isStB w0 ns.length && (ns.all (fun t => decide (0 ≤ t) && decide (t < (n : Int))) && (!decide (w0 = "bear") || (decide ((last : Int) < ns.headD 0) && (par (ns.headD 0).toNat).isNone)))) := rfl
      refine s_if (b := !isStB w0 ns.length) (et_is (et_or (b := false) (et_is (et_test (ev_op (lp Lx.rfl0 (ev_var rfl)) ev_c (rv_eq rfl))) (by rw [decide_eq_false_iff_not]; intro z; injection z with z; omega)) fun _ => et_not (et_B (ev_p0 (v := .bl (isStB w0 ns.length)) (ea_cons (p0 Lx.rfl0 (ev_var rfl)) (ea_cons (ev_op (lp Lx.rfl0 (ev_var rfl)) ev_c rv_I0) ea_nil)) fun G f => ⟨rfl, w0, ns.length, by rw [show (ns.length : Int) + 1 - 1 = (ns.length : Int) by omega], rfl⟩))) (by simp)) (fun hb => ?_) (fun hb => s_next ?_)
      · exact s_ret ev_c fun H1 e => k _ _ e (by rw [vb0, show isStB w0 ns.length = false by simpa using hb]; rfl)
      have hst : isStB w0 ns.length = true := by simpa using hb
      have vb : validB n last par (some (w0, ns)) = (ns.all (fun t => decide (0 ≤ t) && decide (t < (n : Int))) && (!decide (w0 = "bear") || (decide ((last : Int) < ns.headD 0) && (par (ns.headD 0).toNat).isNone))) := by rw [vb0, hst]; rfl
      refine s_forTX (ex_tl (ev_var rfl) (UA.of hp sx_none)) ?_
      rintro _ H1 e1 ⟨r, rfl, _, _, hr⟩
      refine s_forTn ev_c (UA.of hr sx_none) (fun i σ' H' => (∃ v3, σ' = [some (.ref p), some (.int (last : Int)), some (.ref q), v3]) ∧ Lx none H1 H' ∧ ∀ m t, ns[m]? = some t → m < i → 0 ≤ t ∧ t < (n : Int)) wf0 (fun H2 e2 => ⟨⟨_, rfl⟩, e2, fun m t _ z => absurd z (Nat.not_lt_zero m)⟩) (fun i σ' H' _ z => (UA.of hr sx_none).mono z.2.1) ?_ ?_
      · rintro i x σ' H2 hi ⟨⟨v3, rfl⟩, e2, ok⟩
        dsimp only [List.set]
        rw [List.getElem?_map] at hi
        obtain ⟨t, ht, rfl⟩ := Option.map_eq_some_iff.mp hi
        refine s_if1 (b := !(decide (0 ≤ t) && decide (t < (n : Int)))) (et_not (et_test (ev_chain ev_c (ev_var rfl) rv_I0 (fun _ => lq (e1.trans e2) (ev_var rfl)) fun _ => rv_I0))) (fun hb => ?_) (fun hb => ?_)
        · refine s_ret ev_c fun H3 e3 => k _ _ ((e1.trans e2).trans e3) ?_
          rw [vb]
          have : ns.all (fun t => decide (0 ≤ t) && decide (t < (n : Int))) = false := by
            rw [Bool.eq_false_iff]
            intro z
            have := List.all_eq_true.mp z t (List.mem_of_getElem? ht)
            rw [this] at hb
            cases hb
          rw [this]
          rfl
        · refine s_nx fun H3 e3 => ⟨⟨_, rfl⟩, e2.trans e3, fun m t' hm lt => ?_⟩
          by_cases e : m = i
          · subst e
            rw [ht] at hm
            cases hm
            simpa using hb
          · exact ok m t' hm (by omega)
      · rintro σ' H2 ⟨⟨v3, rfl⟩, e2, ok⟩
        rw [List.length_map] at ok
        have e02 := e1.trans e2
        have al : ns.all (fun t => decide (0 ≤ t) && decide (t < (n : Int))) = true := List.all_eq_true.mpr fun t ht => by
          obtain ⟨m, lm, em⟩ := List.mem_iff_getElem.mp ht
          have := ok m t (by rw [← em]; exact List.getElem?_eq_getElem lm) lm
          simp [this]
        rw [vb, al] at k
        refine s_if (b := !decide (w0 = "bear")) (et_is (et_test (ev_op (p0 e02 (ev_var rfl)) ev_c (rv_ne rfl))) (by simp)) (fun hb => ?_) (fun hb => s_next ?_)
        · rw [hb] at k
          exact s_ret ev_c fun H3 e3 => k _ _ (e02.trans e3) rfl
        rw [hb] at k
        have wb : w0 = "bear" := by simpa using hb
        subst wb
        match ns, hp, al, hst, k with
        | [], hp, al, hst, k => exact absurd hst (by decide)
        | t :: ns, hp, al, hst, k =>
          have tb : 0 ≤ t ∧ t < (n : Int) := by
            have := List.all_eq_true.mp al t (by simp)
            simpa using this
          have p1 : ∀ {σ : L2.St} {t0 : TE} {H' : Hp}, Lx none H H' → Ev K none t0 σ H' (.ref p) → Ev K none (tOp (rIxT K) t0 (tC (.int 1))) σ H' (.int t) := fun e h => ev_op h ev_c (rv_ixT (UA.of (e.1 _ _ sx_none hp) sx_none) (at_of (j := 1) rfl rfl))
          exact s_ret (ev_andV (ev_op (p1 e02 (ev_var rfl)) (ev_var rfl) rv_I0) fun _ => ev_op (ev_op (ev_var rfl) (p1 e02 (ev_var rfl)) (rv_ixL (LA.of (e02.1 _ _ sx_none hq) sx_none) (at_of (j := t.toNat) (by omega) (parL_get (by omega))))) ev_c rv_isN) fun H3 e3 => k _ _ (e02.trans e3) (by rw [parV_non]; simp)
/-! bearers -/
/-- BadProgram(s, i) is raised -/
def BadPr (K : PySem.W.Frag) (S : Dst) (H : Hp) (s : Nat) (i : Option Nat) : Value → Addr → Hp → Prop := Rais S H (He.ga K "BadProgram") [("at", oN i), ("slot", .int (s : Int)), ("reason", .str "bad program")]
theorem BadPr.back {S : Dst} {H H1 H2 : Hp} {s : Nat} {i : Option Nat} {cls : Value} {d : Addr} (e : Lx S H H1) (h : BadPr K S H1 s i cls d H2) : BadPr K S H s i cls d H2 := Rais.back e h
def a_bearers (K : PySem.W.Frag) : List V → Hp → Dst → (V → Hp → Prop) → (Value → Addr → Hp → Prop) → Prop := fun vs H S PP PE => S = none ∧ ∃ (t : Addr) (ys : List V) (bs : List (List Stm)), vs = [.ref t] ∧ H t = some (.tup ys) ∧ BodsR none H ys bs ∧ 1 ≤ bs.length ∧ bs.length ≤ 600 ∧
  PP = (fun v H2 => ∃ q par, v = .ref q ∧ H q = none ∧ H2 q = some (.lst (parL bs.length par)) ∧ goA bs.length 0 bs (fun _ => none) = .ok par ∧ faultP bs = none) ∧ PE = fun cls d H2 => ∃ s i, faultP bs = some (s, i) ∧ BadPr K none H s i cls d H2
theorem okr_bearers (T : Txt K mg w) : Ok P w K mg base (L2N.CX P w) 4 (He.fAd K ("bearers", none)) ["bodies"] (sp_xe (a_bearers K)) := by
  refine okDX (F_bearers T) sc_bearers (fun _ _ _ _ _ _ us hl => match us, hl with | [_], _ => rfl) (fun vs H Q E h => ?_) (fun cdv A outer s H vs Q E hr h => ?_)
  · obtain ⟨S, PP, PE, ⟨rfl, t, ys, bs, rfl, _⟩, _⟩ := h; rfl
  · obtain ⟨S, PP, PE, ⟨rfl, t, ys, bs, rfl, ht, hb, l1, l6, rfl, rfl⟩, _, k, ke⟩ := h
    obtain ⟨t_BEAR, g_BEAR'⟩ := g_BEAR T
    refine ⟨_, (pss_cons (ps_set (i := 1) sc_bearers.nd rfl (Or.inl rfl) (pe_op op_rep (pe_lst (pa_cons pe_non pa_nil)) (pe_callB (lenK K rfl) (by rfl) (n_len T) (by decide +kernel) (pa_cons (pv 0) pa_nil))))
      (pss_cons (ps_for (passes_of rfl) rfl (pi_enumT K rfl (by rfl) (n_enumerate T) (pa_cons (pv 0) pa_nil)) (pg_tupK K rfl (by rfl) (pgs_cons (pg_name (i := 2) sc_bearers.nd rfl (Or.inl rfl)) (pgs_cons (pg_name (i := 3) sc_bearers.nd rfl (Or.inl rfl)) pgs_nil)))
      (pss_cons (ps_set (i := 4) sc_bearers.nd rfl (Or.inl rfl) (pv 2))
      (pss_one (ps_for (passes_of rfl) rfl (piEnLK K rfl (by rfl) (n_enumerate T) (pa_cons (pv 3) pa_nil)) (pg_tupK K rfl (by rfl) (pgs_cons (pg_name (i := 5) sc_bearers.nd rfl (Or.inl rfl)) (pgs_cons (pg_name (i := 6) sc_bearers.nd rfl (Or.inl rfl)) pgs_nil)))
      (pss_cons (ps_if (pt_not (pt_val (pe_callO (ok_is_valid T) (hr.mono (by first | decide | omega)) rfl (g_is_valid T) pass0 (pa_cons (pv 6) (pa_cons (pv 4) (pa_cons (pv 1) pa_nil))))))
      (pss_one (L2N.ps_raise rfl (L2N.takes_of rfl rfl rfl rfl) (pmkN_oex (ox_BadProgram T) (ii_BadProgram T) (ti_BadProgram T) (okx_BadProgram T) (hr.mono (by first | decide | omega)) pass0 rfl (g_BadProgram T) (pa_cons (pv 2) (pa_cons (pv 5) pa_nil)))))
      pss_nil)
      (pss_one (ps_if (pt_cmpR op_eq (pe_ix (ixU K rfl) (pv 6) pe_int (fun _ _ => rfl)) (pe_glob (v := V.str "bear") rfl g_BEAR' ⟨_, rfl⟩) (nomark _))
      (pss_cons (ps_set (i := 4) sc_bearers.nd rfl (Or.inl rfl) (pe_ix (ixU K rfl) (pv 6) pe_int (fun _ _ => rfl)))
      (pss_one (ps_asg (pv 2) (pg_sub (pv 1) (pv 4) set_list))))
      pss_nil)))))))
      (pss_cons (ps_for (passes_of rfl) rfl (pi_range2 (by rfl) (n_range T) (pa_cons pe_int (pa_cons (pe_callB (lenK K rfl) (by rfl) (n_len T) (by decide +kernel) (pa_cons (pv 0) pa_nil)) pa_nil))) (pg_name (i := 2) sc_bearers.nd rfl (Or.inl rfl))
      (pss_one (ps_if (pt_cmpR op_isN (pe_ix (ixL K rfl) (pv 1) (pv 2) (fun _ _ => rfl)) pe_non (nomark _))
      (pss_one (L2N.ps_raise rfl (L2N.takes_of rfl rfl rfl rfl) (pmkN_oex (ox_BadProgram T) (ii_BadProgram T) (ti_BadProgram T) (okx_BadProgram T) (hr.mono (by first | decide | omega)) pass0 rfl (g_BadProgram T) (pa_cons (pv 2) (pa_cons pe_non pa_nil)))))
      pss_nil)))
      (pss_one (ps_ret (pv 1)))))), ?_⟩
    refine go (K := K) (σ' := [some (.ref t), none, none, none, none, none, none]) rfl ?_
    have ly := hb.1
    have lt : ∀ {σ : L2.St} {t0 : TE} {H' : Hp}, Lx none H H' → Ev K none t0 σ H' (.ref t) → Ev K none (tCB (rLn K) (tCons t0 tNil)) σ H' (.int (bs.length : Int)) := fun e h => ev_is (ev_cb (ea_cons h ea_nil) (rc_lenT (UA.of (e.1 _ _ sx_none ht) sx_none))) (by rw [ly])
    refine s_asgX (P := fun v H1 => ∃ q, v = .ref q ∧ H q = none ∧ H1 q = some (.lst (parL bs.length (fun _ => none)))) (ex_op1 (ex_lst (vs := [.non]) (ea_cons ev_c ea_nil) (len_le (by simp))) ?_) ?_
    · rintro _ G1 f1 ⟨p, rfl, fp, np, hp⟩
      refine ex_op2 ev_c (lt f1 (ev_var rfl)).toX ?_
      rintro _ G2 f2 rfl
      refine (ex_op ev_c ev_c (rvx_rep (f2.1 _ _ np hp) np (by omega) (by omega) (by simp [sizeLine_eq]; omega))).imp ?_
      rintro v G3 f3 ⟨q, hv, fq, _, hq⟩
      refine ⟨q, hv, (f1.trans f2).fresh fq, ?_⟩
      rw [hq, parL_none]
      simp
    rintro _ H1 e1 ⟨q, rfl, fq, hq⟩
    dsimp only [List.set]
    have hf : faultP bs = match goA bs.length 0 bs (fun _ => none) with
      | .error (s, i) => some (s, some i)
      | .ok par => (lack par 1 (bs.length - 1)).map fun s => (s, none) := by
      unfold faultP
      rw [if_neg (by omega)] <;> rfl
    refine s_forET (ev_var rfl) (UA.of (e1.1 _ _ sx_none ht) sx_none) (fun m σ' H' => (∃ v2 v3 v4 v5 v6, σ' = [some (.ref t), some (.ref q), v2, v3, v4, v5, v6]) ∧ Lx none H H' ∧ ∃ par, H' q = some (.lst (parL bs.length par)) ∧ goA bs.length m (bs.drop m) par = goA bs.length 0 bs (fun _ => none)) (fun H2 e2 => ⟨⟨_, _, _, _, _, rfl⟩, e1.trans e2, _, e2.1 _ _ sx_none hq, by simp⟩) (fun m σ' H' _ z => (UA.of ht sx_none).mono z.2.1) (by decide) ?_ ?_
    · rintro m x σ' H2 H3 hm ⟨⟨v2, v3, v4, v5, v6, rfl⟩, e2, par, hq2, go0⟩ e3
      dsimp only [List.set]
      have lm : m < bs.length := by rw [← ly]; exact (List.getElem?_eq_some_iff.mp hm).1
      obtain ⟨b, rfl, bo⟩ := hb.2 m x _ hm (List.getElem?_eq_getElem lm)
      have dm : bs.drop m = bs[m] :: bs.drop (m + 1) := List.drop_eq_getElem_cons lm
      rw [dm] at go0
      generalize bs[m] = ss at *
      have e02 := e2.trans e3
      have bo3 := bo.mono e02
      obtain ⟨nb, zs, hzs, rel⟩ := bo3
      refine s_asg (ev_var rfl) ?_
      dsimp only [List.set]
      have qb : b ≠ q := fun z => by
        obtain ⟨_, _, z2, _⟩ := bo
        rw [z, fq] at z2
        cases z2
      refine s_forEL1 (ev_var rfl) (LA.of hzs nb) (fun i σ' H' => (∃ v5 v6 last, σ' = [some (.ref t), some (.ref q), some (.int (m : Int)), some (.ref b), some (.int ((last : Nat) : Int)), v5, v6] ∧ ∃ par', H' q = some (.lst (parL bs.length par')) ∧ goB bs.length m i (ss.drop i) last par' = goB bs.length m 0 ss m par) ∧ Lx none H H' ∧ H' b = some (.lst zs)) (fun H4 e4 => ⟨⟨_, _, m, rfl, par, (e3.trans e4).1 _ _ sx_none hq2, rfl⟩, e02.trans e4, e4.1 _ _ sx_none hzs⟩) (fun i σ' H' _ z => LA.of z.2.2 sx_none) (by decide) ?_ ?_
      · rintro i x σ' H4 H5 hi ⟨⟨v5, v6, last, rfl, par', hq4, go1⟩, e4, hb4⟩ e5
        dsimp only [List.set]
        have li : i < ss.length := by rw [← rel.1]; exact (List.getElem?_eq_some_iff.mp hi).1
        have st := (bo.mono (e4.trans e5)).2
        obtain ⟨zs', hz', rel'⟩ := st
        have ez : zs' = zs := by
          have := e5.1 _ _ sx_none hb4
          rw [hz'] at this
          cases this
          rfl
        subst ez
        have sm := rel'.2 i x _ hi (List.getElem?_eq_getElem li)
        have di : ss.drop i = ss[i] :: ss.drop (i + 1) := List.drop_eq_getElem_cons li
        rw [di] at go1
        generalize ss[i] = s at *
        have hq5 := e5.1 _ _ sx_none hq4
        have e05 := e4.trans e5
        have gu : goB bs.length m i (s :: ss.drop (i + 1)) last par' = if validB bs.length last par' s then goB bs.length m (i + 1) (ss.drop (i + 1)) (lastOf last s) (parOf m par' s) else .error i := rfl
        rw [gu] at go1
        refine s_if (b := !validB bs.length last par' s) (et_not (et_B (ev_p0 (ea_cons (ev_var rfl) (ea_cons (ev_var rfl) (ea_cons (ev_var rfl) ea_nil))) fun G f => ⟨rfl, x, q, s, bs.length, last, par', rfl, sm.mono f, f.1 _ _ sx_none hq5, rfl⟩))) (fun hv => ?_) (fun hv => s_next ?_)
        · have hv' : validB bs.length last par' s = false := by simpa using hv
          rw [hv', if_neg Bool.false_ne_true] at go1
          have ga : goA bs.length m (ss :: bs.drop (m + 1)) par = .error (m, i) := by
            unfold goA
            rw [← go1]
          refine s_raise (ea_cons (ev_var rfl) (ea_cons (ev_var rfl) ea_nil)) rfl (by simp) fun d H6 e6 R => ke _ _ _ (e05.trans e6) ⟨m, some i, by rw [hf, ← go0, ga], ?_⟩
          exact BadPr.back e05 R
        · have hv' : validB bs.length last par' s = true := by simpa using hv
          rw [hv', if_pos rfl] at go1
          obtain ⟨p, rfl, hp, _, hlen⟩ := sm
          match s, hv', hp, go1 with
          | some (w0, ns), hv', hp, go1 =>
            have p0 : ∀ {σ : L2.St} {t0 : TE} {H' : Hp}, Lx none H5 H' → Ev K none t0 σ H' (.ref p) → Ev K none (tOp (rIxT K) t0 (tC (.int 0))) σ H' (.str w0) := fun e h => ev_op h ev_c (rv_ixT (UA.of (e.1 _ _ sx_none hp) sx_none) (at_of (j := 0) rfl rfl))
            refine s_if1 (b := decide (w0 = "bear")) (et_is (et_test (ev_op (p0 Lx.rfl0 (ev_var rfl)) ev_c (rv_eq rfl))) (by simp)) (fun hw => ?_) (fun hw => ?_)
            · obtain rfl := of_decide_eq_true hw
              match ns, hv', hp, go1 with
              | [], hv', hp, go1 => exact absurd hv' (by simp [validB, isStB])
              | u :: ns, hv', hp, go1 =>
                have ub : 0 ≤ u ∧ u < (bs.length : Int) := by
                  have := hv'
                  simp only [validB, Bool.and_eq_true, List.all_cons, decide_eq_true_iff] at this
                  exact this.2.1.1
                obtain ⟨u, rfl⟩ := Int.eq_ofNat_of_zero_le ub.1
                have p1 : ∀ {σ : L2.St} {t0 : TE} {H' : Hp}, Lx none H5 H' → Ev K none t0 σ H' (.ref p) → Ev K none (tOp (rIxT K) t0 (tC (.int 1))) σ H' (.int (u : Int)) := fun e h => ev_op h ev_c (rv_ixT (UA.of (e.1 _ _ sx_none hp) sx_none) (at_of (j := 1) rfl rfl))
                refine s_asg (p1 Lx.rfl0 (ev_var rfl)) ?_
                dsimp only [List.set]
                refine s_setL1 (ev_var rfl) (ev_var rfl) (ev_var rfl) hq5 (n := u) (by rw [parL_len]; exact ixN_nat (by omega)) sx_none fun H6 e6 => ?_
                have lo : lastOf last (some ("bear", (u : Int) :: ns)) = u := by simp [lastOf]
                have po : parOf m par' (some ("bear", (u : Int) :: ns)) = setN par' u m := by simp [parOf]
                rw [lo, po] at go1
                exact ⟨⟨_, _, u, rfl, setN par' u m, by rw [e6.1 _ _ sx_none upd_same, parL_set], go1⟩, (e05.put sx_none (fun u z => nomatch (fq.symm.trans z))).trans e6, e6.1 _ _ sx_none (by rw [upd_ne qb]; exact hz')⟩
            · have hw' : ¬ w0 = "bear" := of_decide_eq_false hw
              have lo : lastOf last (some (w0, ns)) = last := by cases ns <;> simp [lastOf, hw']
              have po : parOf m par' (some (w0, ns)) = par' := by cases ns <;> simp [parOf, hw']
              rw [lo, po] at go1
              exact s_nx fun H6 e6 => ⟨⟨_, _, last, rfl, par', e6.1 _ _ sx_none hq5, go1⟩, e05.trans e6, e6.1 _ _ sx_none hz'⟩
      · rintro σ' H4 ⟨⟨v5, v6, last, rfl, par', hq4, go1⟩, e4, hb4⟩
        rw [rel.1, List.drop_length] at go1
        have ga : goA bs.length m (ss :: bs.drop (m + 1)) par = goA bs.length (m + 1) (bs.drop (m + 1)) par' := by
          conv => lhs; unfold goA
          rw [← go1]
          rfl
        exact ⟨⟨_, _, _, _, _, rfl⟩, e4, par', hq4, by rw [← ga, go0]⟩
    · rintro σ' H2 ⟨⟨v2, v3, v4, v5, v6, rfl⟩, e2, par, hq2, go0⟩
      rw [ly, List.drop_length] at go0
      have g0 : goA bs.length 0 bs (fun _ => none) = .ok par := by rw [← go0]; rfl
      rw [g0] at hf
      have hf' : faultP bs = (lack par 1 (bs.length - 1)).map fun s => (s, none) := hf
      refine s_forQn (m := 1) (n := (bs.length : Int)) (ea_cons ev_c (ea_cons (lt e2 (ev_var rfl)) ea_nil)) ⟨by omega, by omega, by omega, by omega⟩ (fun i σ' H' => (∃ v2 v3 v4 v5 v6, σ' = [some (.ref t), some (.ref q), v2, v3, v4, v5, v6]) ∧ Lx none H2 H' ∧ lack par 1 (bs.length - 1) = lack par (1 + i) (bs.length - 1 - i)) wf0 (fun H3 e3 => ⟨⟨_, _, _, _, _, rfl⟩, e3, rfl⟩) ?_ ?_
      · rintro i σ' H3 hi ⟨⟨v2, v3, v4, v5, v6, rfl⟩, e3, hl⟩
        dsimp only [List.set]
        have en : bs.length - 1 - i = (bs.length - 1 - (i + 1)) + 1 := by omega
        rw [en] at hl
        have hu : lack par (1 + i) (bs.length - 1 - (i + 1) + 1) = if (par (1 + i)).isNone then some (1 + i) else lack par (1 + i + 1) (bs.length - 1 - (i + 1)) := rfl
        rw [hu] at hl
        refine s_if1 (b := (par (1 + i)).isNone) (et_is (et_test (ev_op (ev_op (ev_var rfl) (ev_var rfl) (rv_ixL (LA.of (e3.1 _ _ sx_none hq2) sx_none) (at_of (j := 1 + i) (by omega) (parL_get (by omega))))) ev_c rv_isN)) parV_non) (fun hn => ?_) (fun hn => ?_)
        · rw [hn, if_pos rfl] at hl
          refine s_raise (ea_cons (ev_var rfl) (ea_cons ev_c ea_nil)) rfl (by simp) fun d H4 e4 R => ke _ _ _ ((e2.trans e3).trans e4) ⟨1 + i, none, by rw [hf', hl]; rfl, ?_⟩
          refine BadPr.back (e2.trans e3) ?_
          rw [show (1 : Int) + (i : Int) = ((1 + i : Nat) : Int) by omega] at R
          exact R
        · rw [hn, if_neg Bool.false_ne_true] at hl
          exact s_nx fun H4 e4 => ⟨⟨_, _, _, _, _, rfl⟩, e3.trans e4, by rw [hl]; congr 1⟩
      · rintro σ' H3 ⟨⟨v2, v3, v4, v5, v6, rfl⟩, e3, hl⟩
        have z : bs.length - 1 - ((bs.length : Int) - 1).toNat = 0 := by omega
        rw [z] at hl
        exact s_ret (ev_var rfl) fun H4 e4 => k _ _ ((e2.trans e3).trans e4) ⟨q, par, rfl, fq, (e3.trans e4).1 _ _ sx_none hq2, g0, by rw [hf', hl]; rfl⟩
/-! Program.__init__ -/
/-- a program: its parents at p, its own bodies at q -/
def ProgM (K : PySem.W.Frag) (H : Hp) (x q : Addr) (as : List Addr) (bs : List (List Stm)) : Prop := ∃ p par, IA none H x (He.ga K "Program") [("_parents", .ref p), ("_bodies", .ref q)] ∧ H p = some (.lst (parL bs.length par)) ∧ goA bs.length 0 bs (fun _ => none) = .ok par ∧ BodsM none H q as bs
theorem ProgM.mono {H H1 : Hp} {x q : Addr} {as : List Addr} {bs : List (List Stm)} (e : Lx none H H1) (h : ProgM K H x q as bs) : ProgM K H1 x q as bs := by
  obtain ⟨p, par, a, b, c, d⟩ := h
  exact ⟨p, par, a.mono e, e.1 _ _ sx_none b, c, d.mono e⟩
def sp_pinit (K : PySem.W.Frag) : Sp := fun ws H Q E => ∃ (x dx t : Addr) (ys : List V) (bs : List (List Stm)), ws = [.ref x, .ref t] ∧ H x = some (.ins (He.ga K "Program") dx []) ∧ H t = some (.tup ys) ∧ BodsR none H ys bs ∧ bs.length ≤ 600 ∧
  (∀ q as H', faultP bs = none → (∀ b o, b ≠ x → H b = some o → H' b = some o) → H q = none → (∀ b ∈ as, H b = none) → ProgM K H' x q as bs → Q .non H') ∧ ∀ s i cls d H', faultP bs = some (s, i) → Lx none H H' → BadPr K none H s i cls d H' → E cls (some d) H'
theorem okr_ProgramD__initD_ (T : Txt K mg w) : OkVX P w K mg base 5 (He.fAd K ("Program", some "__init__")) (fun vs H Q E => ∃ v0 rest, vs = v0 ++ rest ∧ v0.length = 1 ∧ rest.length ≤ 1000 ∧ ∀ p, H p = none → (sp_pinit K) (v0 ++ [.ref p]) (upd H p (.tup rest)) Q E) := by
  refine okVX (ps0 := ["self"]) (F_ProgramD__initD_ T) sc_ProgramD__initD_ (by decide +kernel) (fun _ _ _ _ _ _ us rest hl => match us, rest, hl with | [_], [], _ => rfl | [_], _ :: _, _ => rfl) (fun cdv A outer s H vs Q E hr h => ?_)
  · obtain ⟨x, dx, t, ys, bs, rfl, hx, ht, hb, l6, k, ke⟩ := h
    refine ⟨_, (pss_cons (ps_if (pt_cmpR op_eq (pe_callB (lenK K rfl) (by rfl) (n_len T) (by decide +kernel) (pa_cons (pv 1) pa_nil)) pe_int (nomark _))
      (pss_one (L2N.ps_raise rfl (L2N.takes_of rfl rfl rfl rfl) (pmkN_oex (ox_BadProgram T) (ii_BadProgram T) (ti_BadProgram T) (okx_BadProgram T) (hr.mono (by first | decide | omega)) pass0 rfl (g_BadProgram T) (pa_cons pe_int (pa_cons pe_non pa_nil)))))
      pss_nil)
      (pss_cons (ps_if (pt_cmpR op_gt (pe_callB (lenK K rfl) (by rfl) (n_len T) (by decide +kernel) (pa_cons (pv 1) pa_nil)) (conK K rfl (pv 0)) (nomark _))
      (pss_one (L2N.ps_raise rfl (L2N.takes_of rfl rfl rfl rfl) (pmkN_oex (ox_TooMany T) (ii_TooMany T) (ti_TooMany T) (okx_TooMany T) (hr.mono (by first | decide | omega)) pass0 rfl (g_TooMany T) (pa_cons (conK K rfl (pv 0)) pa_nil))))
      pss_nil)
      (pss_cons (ps_fldK K rfl (pv 0) (pe_callO (okr_bearers T) (hr.mono (by first | decide | omega)) rfl (g_bearers T) (passX (L2N.takes_of rfl rfl rfl rfl)) (pa_cons (pv 1) pa_nil)) rfl)
      (pss_one (ps_fldK K rfl (pv 0) (pe_lc (own := [("body", 2)]) (by rfl) sc_ProgramD__initD_.nd (piUK K rfl (pv 1)) (blkOk_by (own := [("body", 2)]) (N := ["self", "bodies", "body"]) (sc := defScope s_ProgramD__initD_) (by decide +kernel)) (fun _ _ _ _ _ => by exact (pg_name (i := 2) sc_ProgramD__initD_.nd rfl (Or.inl rfl))) (fun _ _ _ _ _ => by exact pts_nil) (fun _ _ _ _ _ => by exact (pe_callTy (listK K rfl) (by rfl) (n_list T) (by decide +kernel) (pa_cons (pv 2) pa_nil)))) rfl))))), ?_⟩
    refine go (K := K) (σ' := [some (.ref x), some (.ref t), none]) rfl ?_
    have ly := hb.1
    have c := c_Program T
    have lt : ∀ {σ : L2.St} {t0 : TE} {H' : Hp}, Lx none H H' → Ev K none t0 σ H' (.ref t) → Ev K none (tCB (rLn K) (tCons t0 tNil)) σ H' (.int (bs.length : Int)) := fun e h => ev_is (ev_cb (ea_cons h ea_nil) (rc_lenT (UA.of (e.1 _ _ sx_none ht) sx_none))) (by rw [ly])
    have ia : IA none H x (He.ga K "Program") [] := ⟨⟨dx, hx⟩, sx_none⟩
    obtain ⟨cu, hcon⟩ := con_Program_MOST T
    refine s_if (b := decide (bs.length = 0)) (et_is (et_test (ev_op (lt Lx.rfl0 (ev_var rfl)) ev_c (rv_eq rfl))) (by simp)) (fun hz => ?_) (fun hz => s_next ?_)
    · have z := of_decide_eq_true hz
      exact s_raise (ea_cons ev_c (ea_cons ev_c ea_nil)) rfl (by simp) fun d H1 e R => ke 0 none _ _ _ (by unfold faultP; rw [if_pos z]) e R
    have nz : ¬ bs.length = 0 := of_decide_eq_false hz
    refine s_if (b := false) (et_is (et_test (ev_op (lt Lx.rfl0 (ev_var rfl)) (ev_con (ev_var rfl) ia c hcon rfl) rv_I0)) (by simp; omega)) (fun z => nomatch z) (fun _ => s_next ?_)
    refine s_fldX hx sx_none c (na_Program__parents T) (by simp) (P := fun v H2 => ∃ q par, v = .ref q ∧ H q = none ∧ H2 q = some (.lst (parL bs.length par)) ∧ goA bs.length 0 bs (fun _ => none) = .ok par ∧ faultP bs = none) (ex_call (ea_cons (ev_var rfl) ea_nil) (spx_xE fun H1 e => ⟨_, _, ⟨rfl, t, ys, bs, rfl, e.1 _ _ sx_none ht, hb.mono e, by omega, l6, rfl, rfl⟩, ?_, ?_⟩)) (ev_var rfl) ?_
    · rintro v H2 e2 ⟨q, par, h1, h2, h3, h4, h5⟩
      exact ⟨q, par, h1, e.fresh h2, h3, h4, h5⟩
    · rintro cls d H2 e2 ⟨s, i, h1, h2⟩
      exact ke s i _ _ _ h1 (e.trans e2) (h2.back e)
    rintro _ H1 e1 ⟨p, par, rfl, fp, hp, g0, f0⟩
    have tx : t ≠ x := fun z => by rw [z, hx] at ht; cases ht
    have px : p ≠ x := fun z => by rw [z, hx] at fp; cases fp
    have hx1 := e1.1 _ _ sx_none hx
    let fs1 : List (Str × V) := putF "_parents" (.ref p) []
    have hb1 : BodsR none (upd H1 x (.ins (He.ga K "Program") dx fs1)) ys bs := RelL.imp hb fun y ss ⟨b, h1, h2⟩ => ⟨b, h1, h2.updI e1 hx⟩
    refine s_fldX1 upd_same sx_none c (na_Program__bodies T) (by simp [putF]) (P := fun v H2 => ∃ q as, v = .ref q ∧ upd H1 x (.ins (He.ga K "Program") dx fs1) q = none ∧ BodsM none H2 q as bs ∧ ∀ b ∈ as, upd H1 x (.ins (He.ga K "Program") dx fs1) b = none) (ex_copyT (ev_var rfl) (UA.of (by rw [upd_ne tx]; exact e1.1 _ _ sx_none ht) sx_none) hb1 (by omega) (by simp [wipe]) (fun _ => rfl)) (ev_var rfl) ?_
    rintro _ H2 e2 ⟨q, as, rfl, fq, bm, fas⟩ H3 e3
    have nxf : ∀ {b : Addr}, upd H1 x (.ins (He.ga K "Program") dx fs1) b = none → b ≠ x ∧ H b = none := fun {b} z => by
      have n : b ≠ x := fun w => by rw [w, upd_same] at z; cases z
      rw [upd_ne n] at z
      exact ⟨n, e1.fresh z⟩
    have hx2 := e2.1 _ _ sx_none (upd_same (H := H1) (a := x) (o := .ins (He.ga K "Program") dx fs1))
    have bm2 : BodsM none (upd H2 x (.ins (He.ga K "Program") dx (putF "_bodies" (.ref q) fs1))) q as bs := bm.updI hx2 (nxf fq).1 (fun z => (nxf (fas _ z)).1 rfl)
    refine k q as H3 f0 (fun b o nb hb => e3.1 _ _ sx_none (by rw [upd_ne nb]; exact e2.1 _ _ sx_none (by rw [upd_ne nb]; exact e1.1 _ _ sx_none hb))) (nxf fq).2 (fun b hb => (nxf (fas b hb)).2) ⟨p, par, ⟨⟨dx, e3.1 _ _ sx_none upd_same⟩, sx_none⟩, e3.1 _ _ sx_none (by rw [upd_ne px]; exact e2.1 _ _ sx_none (by rw [upd_ne px]; exact hp)), g0, bm2.mono e3⟩
/-! Program.__len__ -/
def a_plen (K : PySem.W.Frag) : List V → Hp → Dst → (V → Hp → Prop) → Prop := fun vs H S PP => S = none ∧ ∃ (x q : Addr) (as : List Addr) (bs : List (List Stm)), vs = [.ref x] ∧ ProgM K H x q as bs ∧ PP = fun v _ => v = .int (bs.length : Int)
theorem ok_ProgramD__lenD_ (T : Txt K mg w) : Ok P w K mg base CX0 1 (He.fAd K ("Program", some "__len__")) ["self"] (sp_x (a_plen K)) := by
  refine okD (F_ProgramD__lenD_ T) sc_ProgramD__lenD_ (fun _ _ _ _ _ _ us hl => match us, hl with | [_], _ => rfl) (fun vs H Q E h => ?_) (fun cdv A outer s H vs Q E hr h => ?_)
  · obtain ⟨S, PP, ⟨rfl, x, q, as, bs, rfl, _⟩, _⟩ := h; rfl
  · obtain ⟨S, PP, ⟨rfl, x, q, as, bs, rfl, ⟨p, par, ia, _, _, bm⟩, rfl⟩, _, k⟩ := h
    refine ⟨_, (pss_one (ps_ret (pe_callB (lenK K rfl) (by rfl) (n_len T) (by decide +kernel) (pa_cons (fldK K rfl (pv 0)) pa_nil)))), ?_⟩
    refine go (K := K) (σ' := [some (.ref x)]) rfl ?_
    exact s_ret (ev_cb (ea_cons (ev_fld (ev_var rfl) ia (c_Program T) (na_Program__bodies T) rfl) ea_nil) (rc_len (LA.of bm.at_ sx_none))) fun H1 e => k _ _ e (by rw [List.length_map, bm.len])
/-! Program.body -/
def a_pbody (K : PySem.W.Frag) : List V → Hp → Dst → (V → Hp → Prop) → Prop := fun vs H S PP => S = none ∧ ∃ (x q : Addr) (as : List Addr) (bs : List (List Stm)) (i : Nat) (ss : List Stm), vs = [.ref x, .int (i : Int)] ∧ ProgM K H x q as bs ∧ bs[i]? = some ss ∧ PP = fun v H2 => ∃ r, v = .ref r ∧ H r = none ∧ BodyA none H2 r ss
theorem ok_Program_body (T : Txt K mg w) : Ok P w K mg base CX0 1 (He.fAd K ("Program", some "body")) ["self", "slot"] (sp_x (a_pbody K)) := by
  refine okD (F_Program_body T) sc_Program_body (fun _ _ _ _ _ _ us hl => match us, hl with | [_, _], _ => rfl) (fun vs H Q E h => ?_) (fun cdv A outer s H vs Q E hr h => ?_)
  · obtain ⟨S, PP, ⟨rfl, x, q, as, bs, i, ss, rfl, _⟩, _⟩ := h; rfl
  · obtain ⟨S, PP, ⟨rfl, x, q, as, bs, i, ss, rfl, ⟨p, par, ia, _, _, bm⟩, hi, rfl⟩, _, k⟩ := h
    refine ⟨_, (pss_cons (ps_if (pt_not (pt_chain op_le op_lt pe_int (pv 1) (pe_callB (lenK K rfl) (by rfl) (n_len T) (by decide +kernel) (pa_cons (fldK K rfl (pv 0)) pa_nil))))
      (pss_one ps_never)
      pss_nil)
      (pss_one (ps_ret (pe_callTy (listK K rfl) (by rfl) (n_list T) (by decide +kernel) (pa_cons (pe_ix (ixL K rfl) (fldK K rfl (pv 0)) (pv 1) (fun _ _ => rfl)) pa_nil))))), ?_⟩
    refine go (K := K) (σ' := [some (.ref x), some (.int (i : Int))]) rfl ?_
    have c := c_Program T
    have il : i < bs.length := (List.getElem?_eq_some_iff.mp hi).1
    have bf : ∀ {σ : L2.St} {t0 : TE}, Ev K none t0 σ H (.ref x) → Ev K none (tFld K t0 "_bodies") σ H (.ref q) := fun h => ev_fld h ia c (na_Program__bodies T) rfl
    refine s_if (b := false) (et_is (et_not (et_test (ev_chain ev_c (ev_var rfl) rv_I0 (fun _ => ev_cb (ea_cons (bf (ev_var rfl)) ea_nil) (rc_len (LA.of bm.at_ sx_none))) fun _ => rv_I0))) (by simp [bm.len, il])) (fun z => nomatch z) (fun _ => s_next ?_)
    obtain ⟨b, ss', h1, h2, nb, zs, hz, rel⟩ := bm.body il
    rw [hi] at h2
    cases h2
    refine s_retX (ex_cb (ea_cons (ev_op (bf (ev_var rfl)) (ev_var rfl) (rv_ixL (LA.of bm.at_ sx_none) (at_of (j := i) rfl (by rw [List.getElem?_map, h1]; rfl)))) ea_nil) (rc_list (LA.of hz nb))) ?_
    rintro _ H1 e ⟨r, rfl, fr, nr, hr⟩
    exact k _ _ e ⟨r, rfl, fr, nr, zs, hr, rel.imp fun _ _ z => z.mono e⟩
/-! _law_start -/
theorem ok__law_start (T : Txt K mg w) : Ok P w K mg base CX0 1 (He.fAd K ("_law_start", none)) ["script"] (sp_start K) := by
  refine okD (F__law_start T) sc__law_start (fun _ _ _ _ _ _ us hl => match us, hl with | [_], _ => rfl) (fun vs H Q E h => ?_) (fun cdv A outer s H vs Q E hr h => ?_)
  · obtain ⟨a, ns, rfl, _⟩ := h; rfl
  · obtain ⟨a, ns, rfl, hS, k⟩ := h
    refine ⟨_, (pss_one (ps_ret (pe_lst (pa_cons (pe_callTy (listK K rfl) (by rfl) (n_list T) (by decide +kernel) (pa_cons (pv 0) pa_nil)) (pa_cons pe_int (pa_cons pe_int (pa_cons pe_int (pa_cons pe_int pa_nil)))))))), ?_⟩
    refine go (K := K) (σ' := [some (.ref a)]) rfl ?_
    refine s_retX (ex_lstX (PA := fun vs H2 => ∃ l, vs = [.ref l, .int 0, .int 0, .int 0, .int 0] ∧ H l = none ∧ H2 l = some (.lst (ns.map V.int))) ?_ ?_) ?_
    · refine eax_cons (ex_cb (ea_cons (ev_var rfl) ea_nil) (rc_list (LA.of0 hS))) ?_
      rintro v H1 e ⟨l, rfl, hl, _, hl1⟩
      exact (EvA.toX (vs := [.int 0, .int 0, .int 0, .int 0]) (by walk_at "ev")).imp fun vs H2 e2 q => ⟨l, by rw [q], hl, (e2.1 _ _ sx_none hl1)⟩
    · rintro vs H2 ⟨l, rfl, _⟩
      show 5 ≤ sizeLine
      decide
    · rintro v H1 e ⟨vs, H3, ⟨l, rfl, hl, hl1⟩, e3, e4, p, rfl, hp, _, hp1⟩
      exact k p l H1 hp hl e.same ⟨ns, 0, 0, 0, 0, hp1, by decide, e4.1 _ _ sx_none hl1⟩
/-! _law_draw -/
theorem ok__law_draw (T : Txt K mg w) : Ok P w K mg base CX0 1 (He.fAd K ("_law_draw", none)) ["state", "many"] (sp_draw) := by
  refine okD (F__law_draw T) sc__law_draw (fun _ _ _ _ _ _ us hl => match us, hl with | [_, _], _ => rfl) (fun vs H Q E h => ?_) (fun cdv A outer s H vs Q E hr h => ?_)
  · obtain ⟨st, l, m, rfl, _⟩ := h; rfl
  · obtain ⟨st, l, m, rfl, m0, m1, ⟨ns, p, c, n, b, hst, hp0, hl⟩, k⟩ := h
    have nl : ∀ (H' : Hp) (p c n b : Int), H' st = some (.lst [.ref l, .int p, .int c, .int n, .int b]) → H' l = some (.lst (ns.map V.int)) → l ≠ st := fun H' p c n b h1 h2 z => by
      subst z
      rw [h1] at h2
      have z2 := congrArg (fun o => match o with | some (HO.lst (x :: _)) => x | _ => .non) h2
      cases ns with
      | nil => exact nomatch z2
      | cons y r => exact nomatch z2
    have nls := nl H p c n b hst hl
    -- what holds all the while
    let D5 : Hp → Int → Int → Int → Int → Prop := fun H' p c n b => H' st = some (.lst [.ref l, .int p, .int c, .int n, .int b]) ∧ 0 ≤ p ∧ H' l = some (.lst (ns.map V.int)) ∧ ∀ b o, b ≠ st → H b = some o → H' b = some o
    have d0 : D5 H p c n b := ⟨hst, hp0, hl, fun _ _ _ e => e⟩
    have dx : ∀ {H1 H2 p c n b}, D5 H1 p c n b → Lx none H1 H2 → D5 H2 p c n b := fun d e => ⟨e.1 _ _ sx_none d.1, d.2.1, e.1 _ _ sx_none d.2.2.1, fun b o nb eb => e.1 _ _ sx_none (d.2.2.2 b o nb eb)⟩
    have du : ∀ {H1 p c n b} (p' c' n' b' : Int), D5 H1 p c n b → 0 ≤ p' → D5 (upd H1 st (.lst [.ref l, .int p', .int c', .int n', .int b'])) p' c' n' b' := fun p' c' n' b' d h => ⟨upd_same, h, by rw [upd_ne nls]; exact d.2.2.1, fun b o nb eb => by rw [upd_ne nb]; exact d.2.2.2 b o nb eb⟩
    have fin : ∀ (r p c n b : Int) H1, 0 ≤ r → r < m → D5 H1 p c n b → Q (.int r) H1 := fun r p c n b H1 r0 r1 d => k r H1 r0 r1 ⟨ns, p, c, n, b, d.1, d.2.1, d.2.2.1⟩ d.2.2.2
    have LS : ∀ {H1 p c n b}, D5 H1 p c n b → LA K none H1 st [.ref l, .int p, .int c, .int n, .int b] := fun d => LA.of d.1 sx_none
    have LN : ∀ {H1 p c n b}, D5 H1 p c n b → LA K none H1 l (ns.map V.int) := fun d => LA.of d.2.2.1 sx_none
    have mpos : ∀ i : Int, 0 ≤ i % m ∧ i % m < m := fun i => ⟨Int.emod_nonneg _ (by omega), Int.emod_lt_of_pos _ m0⟩
    refine ⟨_, (Evl.pss_cut (ps_if (pt_cmpR op_eq (pe_ix (ixL K rfl) (pv 0) pe_int (fun _ _ => rfl)) pe_int (nomark _))
      (pss_cons (ps_if (pt_cmpR op_ge (pe_ix (ixL K rfl) (pv 0) pe_int (fun _ _ => rfl)) (pe_callB (lenK K rfl) (by rfl) (n_len T) (by decide +kernel) (pa_cons (pe_ix (ixL K rfl) (pv 0) pe_int (fun _ _ => rfl)) pa_nil)) (nomark _))
      (pss_one (ps_ret pe_int))
      pss_nil)
      (pss_cons (ps_asg (pe_ix (ixL K rfl) (pe_ix (ixL K rfl) (pv 0) pe_int (fun _ _ => rfl)) (pe_ix (ixL K rfl) (pv 0) pe_int (fun _ _ => rfl)) (fun _ _ => rfl)) (pg_sub (pv 0) pe_int set_list))
      (pss_cons (ps_asg (pe_op op_add (pe_ix (ixL K rfl) (pv 0) pe_int (fun _ _ => rfl)) pe_int) (pg_sub (pv 0) pe_int set_list))
      (pss_cons (ps_asg pe_int (pg_sub (pv 0) pe_int set_list))
      (pss_cons (ps_asg pe_int (pg_sub (pv 0) pe_int set_list))
      (pss_one (ps_if (pt_cmpR op_ge (pe_ix (ixL K rfl) (pv 0) pe_int (fun _ _ => rfl)) (pe_op op_pow pe_int pe_int) (nomark _))
      (pss_cons (ps_asg pe_int (pg_sub (pv 0) pe_int set_list))
      (pss_one (ps_asg pe_int (pg_sub (pv 0) pe_int set_list))))
      pss_nil)))))))
      pss_nil)
      (pss_cons (ps_asg (pe_op op_sub (pe_ix (ixL K rfl) (pv 0) pe_int (fun _ _ => rfl)) pe_int) (pg_sub (pv 0) pe_int set_list))
      (pss_cons (ps_if (pt_cmpR op_eq (pe_ix (ixL K rfl) (pv 0) pe_int (fun _ _ => rfl)) pe_int (nomark _))
      (pss_cons (ps_set (i := 2) sc__law_draw.nd rfl (Or.inl rfl) (pe_op op_mod (pe_callTy callInt (by rfl) (n_int T) (by decide +kernel) (pa_cons (pe_ix (ixL K rfl) (pv 0) pe_int (fun _ _ => rfl)) pa_nil)) (pv 1)))
      (pss_cons (ps_asg (pe_op op_fdiv (pe_callTy callInt (by rfl) (n_int T) (by decide +kernel) (pa_cons (pe_ix (ixL K rfl) (pv 0) pe_int (fun _ _ => rfl)) pa_nil)) (pv 1)) (pg_sub (pv 0) pe_int set_list))
      (Evl.pss_cut (ps_if (pt_cmpR op_eq (pe_ix (ixL K rfl) (pv 0) pe_int (fun _ _ => rfl)) pe_int (nomark _))
      (pss_one (ps_asg pe_int (pg_sub (pv 0) pe_int set_list)))
      pss_nil)
      (pss_one (ps_ret (pv 2))))))
      pss_nil)
      (pss_cons (ps_set (i := 3) sc__law_draw.nd rfl (Or.inl rfl) (pe_op op_mod (pe_callTy callInt (by rfl) (n_int T) (by decide +kernel) (pa_cons (pe_op op_add (pe_op op_add (pe_op op_mul (pe_ix (ixL K rfl) (pv 0) pe_int (fun _ _ => rfl)) pe_int) (pe_op op_mul (pe_ix (ixL K rfl) (pv 0) pe_int (fun _ _ => rfl)) pe_int)) pe_int) pa_nil)) pe_int))
      (pss_cons (ps_set (i := 3) sc__law_draw.nd rfl (Or.inl rfl) (pe_op op_mod (pe_callTy callInt (by rfl) (n_int T) (by decide +kernel) (pa_cons (pe_op op_add (pe_op op_add (pe_op op_mul (pv 3) pe_int) (pe_op op_fdiv (pv 3) pe_int)) pe_int) pa_nil)) pe_int))
      (pss_one (ps_ret (pe_op op_mod (pe_callTy callInt (by rfl) (n_int T) (by decide +kernel) (pa_cons (pv 3) pa_nil)) (pv 1))))))))), ?_⟩
    refine go (K := K) (σ' := [some (.ref st), some (.int m), none, none]) rfl ?_
    have L1 := LS d0
    have L1n := LN d0
    refine s_ifJ (fun σ' H' => σ' = [some (.ref st), some (.int m), none, none] ∧ ∃ p c n b, D5 H' p c n b) (fun _ _ _ => Lx.rfl0) (by walk_at "ev") (fun _ => ?_) (fun _ => s_nx fun H1 e => ⟨rfl, _, _, _, _, dx d0 e⟩) ?_
    · walk_at "if"
      · intro _
        exact s_ret ev_c fun H1 e => fin 0 _ _ _ _ H1 (by omega) m0 (dx d0 e)
      · intro hlt
        refine s_next ?_
        have hlt' : p < (ns.length : Int) := by
          have z := of_decide_eq_false hlt
          simp only [List.length_map] at z
          omega
        obtain ⟨y, hy⟩ : ∃ y, ns[p.toNat]? = some y := ⟨_, List.getElem?_eq_getElem (by omega)⟩
        have hat : atI (ns.map V.int) p = some (.int y) := at_of (j := p.toNat) (by omega) (by rw [List.getElem?_map, hy]; rfl)
        refine s_setL (v := .int y) (ev_op (ev_op (by walk_at "ev") ev_c (rv_ixL L1 rfl)) (ev_op (by walk_at "ev") ev_c (rv_ixL L1 rfl)) (rv_ixL L1n hat)) (by walk_at "ev") (by walk_at "ev") d0.1 rfl sx_none ?_
        try dsimp only [List.set]
        have d1 := du p y n b d0 hp0
        have L2' := LS d1
        refine s_setL (ev_op (ev_op (ev_var rfl) ev_c (rv_ixL L2' rfl)) ev_c rv_I0) (by walk_at "ev") (by walk_at "ev") d1.1 rfl sx_none ?_
        try dsimp only [List.set]
        have d2 := du (p + 1) y n b d1 (by omega)
        refine s_setL (by walk_at "ev") (by walk_at "ev") (by walk_at "ev") d2.1 rfl sx_none ?_
        try dsimp only [List.set]
        have d3 := du (p + 1) y 10 b d2 (by omega)
        refine s_setL (by walk_at "ev") (by walk_at "ev") (by walk_at "ev") d3.1 rfl sx_none ?_
        try dsimp only [List.set]
        have d4 := du (p + 1) y 10 0 d3 (by omega)
        have L4 := LS d4
        refine s_if1 (et_test (ev_op (ev_op (ev_var rfl) ev_c (rv_ixL L4 rfl)) (ev_op ev_c ev_c (rv_I ⟨by decide, by decide, by decide⟩)) rv_I0)) (fun _ => ?_) (fun _ => s_nx fun H1 e => ⟨rfl, _, _, _, _, dx d4 e⟩)
        refine s_setL (by walk_at "ev") (by walk_at "ev") (by walk_at "ev") d4.1 rfl sx_none ?_
        have d5 := du (p + 1) y 60 0 d4 (by omega)
        refine s_setL1 (by walk_at "ev") (by walk_at "ev") (by walk_at "ev") d5.1 rfl sx_none fun H1 e => ?_
        exact ⟨rfl, _, _, _, _, dx (du (p + 1) y 60 1 d5 (by omega)) e⟩
    · clear L1 L1n d0 hl hst
      rintro σ' H' ⟨rfl, p, c, n, b, d0⟩
      have L1 := LS d0
      refine s_setL (ev_op (ev_op (ev_var rfl) ev_c (rv_ixL L1 rfl)) ev_c rv_I0) (by walk_at "ev") (by walk_at "ev") d0.1 rfl sx_none ?_
      try dsimp only [List.set]
      have d1 := du p c (n - 1) b d0 d0.2.1
      have L1 := LS d1
      refine s_if (et_test (ev_op (ev_op (ev_var rfl) ev_c (rv_ixL L1 rfl)) ev_c (rv_eq rfl))) (fun _ => ?_) (fun _ => s_next ?_)
      · refine s_asg (ev_op (ev_cb (ea_cons (ev_op (ev_var rfl) ev_c (rv_ixL L1 rfl)) ea_nil) rc_int) (ev_var rfl) (rv_I m0)) ?_
        try dsimp only [List.set]
        refine s_setL (ev_op (ev_cb (ea_cons (ev_op (ev_var rfl) ev_c (rv_ixL L1 rfl)) ea_nil) rc_int) (ev_var rfl) (rv_I ⟨m0, m1⟩)) (by walk_at "ev") (by walk_at "ev") d1.1 rfl sx_none ?_
        try dsimp only [List.set]
        have d2 := du p (c / m) (n - 1) b d1 d1.2.1
        have L3 := LS d2
        refine s_ifJ (fun σ' H' => σ' = [some (.ref st), some (.int m), some (.int (c % m)), none] ∧ ∃ p c n b, D5 H' p c n b) (fun _ _ _ => Lx.rfl0) (et_test (ev_op (ev_op (ev_var rfl) ev_c (rv_ixL L3 rfl)) ev_c (rv_eq rfl))) (fun _ => ?_) (fun _ => s_nx fun H1 e => ⟨rfl, _, _, _, _, dx d2 e⟩) ?_
        · refine s_setL1 (by walk_at "ev") (by walk_at "ev") (by walk_at "ev") d2.1 rfl sx_none fun H1 e => ?_
          exact ⟨rfl, _, _, _, _, dx (du _ _ _ _ d2 d2.2.1) e⟩
        · rintro σ' H' ⟨rfl, _, _, _, _, d3⟩
          exact s_ret (ev_var rfl) fun H1 e => fin _ _ _ _ _ H1 (mpos _).1 (mpos _).2 (dx d3 e)
      · refine s_asg (ev_op (ev_cb (ea_cons (ev_op (ev_op (ev_op (ev_op (ev_var rfl) ev_c (rv_ixL L1 rfl)) ev_c (rv_I (.inr (by decide)))) (ev_op (ev_op (ev_var rfl) ev_c (rv_ixL L1 rfl)) ev_c (rv_I (.inr (by decide)))) rv_I0) ev_c rv_I0) ea_nil) rc_int) ev_c (rv_I (by decide))) ?_
        try dsimp only [List.set]
        refine s_asg (ev_op (ev_cb (ea_cons (ev_op (ev_op (ev_op (ev_var rfl) ev_c (rv_I (.inr (by decide)))) (ev_op (ev_var rfl) ev_c (rv_I ⟨by decide, by decide⟩)) rv_I0) ev_c rv_I0) ea_nil) rc_int) ev_c (rv_I (by decide))) ?_
        try dsimp only [List.set]
        exact s_ret (ev_op (ev_cb (ea_cons (ev_var rfl) ea_nil) rc_int) (ev_var rfl) (rv_I m0)) fun H2 e2 => fin _ _ _ _ _ H2 (mpos _).1 (mpos _).2 (dx d1 e2)
/-! _law_is_number -/
theorem ok__law_is_number (T : Txt K mg w) : Ok P w K mg base CX0 1 (He.fAd K ("_law_is_number", none)) ["actual"] (sp_isnum) := by
  refine okD (F__law_is_number T) sc__law_is_number (fun _ _ _ _ _ _ us hl => match us, hl with | [_], _ => rfl) (fun vs H Q E h => ?_) (fun cdv A outer s H vs Q E hr h => ?_)
  · obtain ⟨x, d, rfl, _⟩ := h; rfl
  · obtain ⟨x, d, rfl, r, k⟩ := h
    refine ⟨_, (pss_one (ps_ret (pe_and (pe_callB (isiK K rfl) (by rfl) (n_isinstance T) (by decide +kernel) (pa_cons (pv 0) (pa_cons (pe_bltn (v := .ty "int") (by rfl) (n_int T) (by decide +kernel) rfl) pa_nil))) (pe_one (pe_not (pe_callB (isiK K rfl) (by rfl) (n_isinstance T) (by decide +kernel) (pa_cons (pv 0) (pa_cons (pe_bltn (v := .ty "bool") (by rfl) (n_bool T) (by decide +kernel) rfl) pa_nil)))))))), ?_⟩
    refine go (K := K) (σ' := [some x]) rfl ?_
    have key : ∃ a b, kitB (tyD d) "int" = some a ∧ kitB (tyD d) "bool" = some b ∧ (a && !b) = isNumD d := by
      cases d with
      | none => exact ⟨false, false, kD "NoneType" rfl (by decide +kernel), kD "NoneType" rfl (by decide +kernel), rfl⟩
      | bool _ => exact ⟨true, true, kD "bool" rfl (by decide +kernel), kD "bool" rfl (by decide +kernel), rfl⟩
      | int _ => exact ⟨true, false, kD "int" rfl (by decide +kernel), kD "int" rfl (by decide +kernel), rfl⟩
      | str _ => exact ⟨false, false, kD "str" rfl (by decide +kernel), kD "str" rfl (by decide +kernel), rfl⟩
      | list _ => exact ⟨false, false, kD "list" rfl (by decide +kernel), kD "list" rfl (by decide +kernel), rfl⟩
      | tuple _ => exact ⟨false, false, kD "tuple" rfl (by decide +kernel), kD "tuple" rfl (by decide +kernel), rfl⟩
      | dict _ => cases r
    obtain ⟨a, b, ka, kb, e⟩ := key
    refine s_ret (ev_andV (ev_isi (ev_var rfl) r ka) fun _ => ev_notV (ev_isi (ev_var rfl) r kb)) fun H1 e1 => ?_
    rw [e]
    exact k _ e1
theorem okh__law_is_number (T : Txt K mg w) : OkH P w K mg base CX0 1 (He.fAd K ("_law_is_number", none)) ["actual"] (sp_isnum) := by
  refine okDH (F__law_is_number T) sc__law_is_number (fun _ _ _ _ _ _ us hl => match us, hl with | [_], _ => rfl) (fun vs H Q E h => ?_) (fun cdv A outer s H vs Q E p hot hr h => ?_)
  · obtain ⟨x, d, rfl, _⟩ := h; rfl
  · obtain ⟨x, d, rfl, r, k⟩ := h
    refine ⟨_, (pss_one (ps_ret (pe_and (pe_callB (isiK K rfl) (by rfl) (n_isinstance T) (by decide +kernel) (pa_cons (pv 0) (pa_cons (pe_bltn (v := .ty "int") (by rfl) (n_int T) (by decide +kernel) rfl) pa_nil))) (pe_one (pe_not (pe_callB (isiK K rfl) (by rfl) (n_isinstance T) (by decide +kernel) (pa_cons (pv 0) (pa_cons (pe_bltn (v := .ty "bool") (by rfl) (n_bool T) (by decide +kernel) rfl) pa_nil)))))))), ?_⟩
    refine go (K := K) (σ' := [some x]) rfl ?_
    have key : ∃ a b, kitB (tyD d) "int" = some a ∧ kitB (tyD d) "bool" = some b ∧ (a && !b) = isNumD d := by
      cases d with
      | none => exact ⟨false, false, kD "NoneType" rfl (by decide +kernel), kD "NoneType" rfl (by decide +kernel), rfl⟩
      | bool _ => exact ⟨true, true, kD "bool" rfl (by decide +kernel), kD "bool" rfl (by decide +kernel), rfl⟩
      | int _ => exact ⟨true, false, kD "int" rfl (by decide +kernel), kD "int" rfl (by decide +kernel), rfl⟩
      | str _ => exact ⟨false, false, kD "str" rfl (by decide +kernel), kD "str" rfl (by decide +kernel), rfl⟩
      | list _ => exact ⟨false, false, kD "list" rfl (by decide +kernel), kD "list" rfl (by decide +kernel), rfl⟩
      | tuple _ => exact ⟨false, false, kD "tuple" rfl (by decide +kernel), kD "tuple" rfl (by decide +kernel), rfl⟩
      | dict _ => cases r
    obtain ⟨a, b, ka, kb, e⟩ := key
    refine s_ret (ev_andV (ev_isi (ev_var rfl) r ka) fun _ => ev_notV (ev_isi (ev_var rfl) r kb)) fun H1 e1 => ?_
    rw [e]
    exact k _ e1
/-! _law_same -/
/-- the reading of the walk over the items -/
theorem same_loop {Q : VK} {H H' : Hp} {a b : Addr} {xs ys : List V} {ds : List PyData} {n : Nat} (hd : PyData.depthAll ds < n) (h4 : RpAll none H xs ds) (g4 : RpAll none H ys ds)
    (hx : (H a = some (.lst xs) ∧ H b = some (.lst ys)) ∨ (H a = some (.tup xs) ∧ H b = some (.tup ys))) (h3 : xs.length ≤ 100000) (g3 : ys.length ≤ 100000) (e : Lx none H H') (k : ∀ H', Lx none H H' → Q (.bl true) H') {D : Ends} (hD : D.rt = Q) :
    Fw.St K none (tSeq (tFor (iRng1 (tCons (tCB (rLn K) (tCons (tVar 1) tNil)) tNil)) (gName 2) (tIfS (tNot (tB (tCall (sp_same n) [] E0 (tCons (tOp (rIx K) (tVar 0) (tVar 2)) (tCons (tOp (rIx K) (tVar 1) (tVar 2)) tNil))))) (tRet (tC (.bl false))) tNext)) (tRet (tC (.bl true)))) D [some (.ref a), some (.ref b), none] H' := by
  have sx : SqL K H a xs ∨ SqT K H a xs := hx.imp (fun z => SqL.of z.1) (fun z => SqT.of z.1)
  have sy : SqL K H b ys ∨ SqT K H b ys := hx.imp (fun z => SqL.of z.2) (fun z => SqT.of z.2)
  have mv : ∀ {H1 p zs}, Lx none H H1 → (SqL K H p zs ∨ SqT K H p zs) → (SqL K H1 p zs ∨ SqT K H1 p zs) := fun e z => z.imp (fun z => ((LA.of0 z).mono e).q) (fun z => ((UA.of0 z).mono e).q)
  refine s_forRn (n := (ys.length : Int)) (ea_cons (ev_cb (ea_cons (ev_var rfl) ea_nil) (rc_lenLU (mv e sy) sx_none)) ea_nil) ⟨by omega, by omega⟩ (fun i σ' H1 => (∃ v, σ' = [some (.ref a), some (.ref b), v]) ∧ Lx none H H1) wf0 (fun H1 e1 => ⟨⟨_, rfl⟩, e.trans e1⟩) ?_ ?_
  · rintro i σ' H1 hi ⟨⟨v, rfl⟩, e1⟩
    dsimp only [List.set]
    have il : i < ds.length := by have := g4.length; omega
    obtain ⟨d, hdi⟩ : ∃ d, ds[i]? = some d := ⟨_, List.getElem?_eq_getElem il⟩
    obtain ⟨vx, hvx, rx⟩ := h4.get hdi
    obtain ⟨vy, hvy, ry⟩ := g4.get hdi
    have dep : d.depth < n := Nat.lt_of_le_of_lt (depth_mem hdi) hd
    refine s_if1 (b := false) (et_not (b := true) (et_B (ev_same (ev_op (ev_var rfl) (ev_var rfl) (rv_ix (mv e1 sx) sx_none (at_of rfl hvx))) (ev_op (ev_var rfl) (ev_var rfl) (rv_ix (mv e1 sy) sx_none (at_of rfl hvy))) (rx.m e1) (ry.m e1) dep))) (fun z => nomatch z) (fun _ => s_nx fun H2 e2 => ⟨⟨_, rfl⟩, e1.trans e2⟩)
  · rintro σ' H1 ⟨⟨v, rfl⟩, e1⟩
    refine s_ret ev_c fun H2 e2 => ?_
    rw [hD]
    exact k _ (e1.trans e2)
theorem same_body (T : Txt K mg w) (n : Nat) (IH : Ok P w K mg base CX0 (n + 1) (He.fAd K ("_law_same", none)) ["actual", "expected"] (sp_same n)) : Ok P w K mg base CX0 (n + 1 + 1) (He.fAd K ("_law_same", none)) ["actual", "expected"] (sp_same (n + 1)) := by
  refine okD (F__law_same T) sc__law_same (fun _ _ _ _ _ _ us hl => match us, hl with | [_, _], _ => rfl) (fun vs H Q E h => ?_) (fun cdv A outer s H vs Q E hr h => ?_)
  · obtain ⟨x, y, d, rfl, _⟩ := h; rfl
  · obtain ⟨x, y, d, rfl, hd, rx, ry, k⟩ := h
    refine ⟨_, (pss_cons (ps_if (pt_cmpR op_isN (pv 1) pe_non (nomark _))
      (pss_one (ps_ret (pe_cmpR op_isN (pv 0) pe_non (nomark _))))
      pss_nil)
      (pss_cons (ps_if (pt_val (pe_callB (isiK K rfl) (by rfl) (n_isinstance T) (by decide +kernel) (pa_cons (pv 1) (pa_cons (pe_bltn (v := .ty "bool") (by rfl) (n_bool T) (by decide +kernel) rfl) pa_nil))))
      (pss_one (ps_ret (pe_and (pe_callB (isiK K rfl) (by rfl) (n_isinstance T) (by decide +kernel) (pa_cons (pv 0) (pa_cons (pe_bltn (v := .ty "bool") (by rfl) (n_bool T) (by decide +kernel) rfl) pa_nil))) (pe_one (pe_cmpR op_eq (pv 0) (pv 1) (nomark _))))))
      pss_nil)
      (pss_cons (ps_if (pt_val (pe_callB (isiK K rfl) (by rfl) (n_isinstance T) (by decide +kernel) (pa_cons (pv 1) (pa_cons (pe_bltn (v := .ty "int") (by rfl) (n_int T) (by decide +kernel) rfl) pa_nil))))
      (pss_one (ps_ret (pe_and (pe_callO (ok__law_is_number T) (hr.mono (by first | decide | omega)) rfl (g__law_is_number T) pass0 (pa_cons (pv 0) pa_nil)) (pe_one (pe_cmpR op_eq (pv 0) (pv 1) (nomark _))))))
      pss_nil)
      (pss_cons (ps_if (pt_val (pe_callB (isiK K rfl) (by rfl) (n_isinstance T) (by decide +kernel) (pa_cons (pv 1) (pa_cons (pe_bltn (v := .ty "str") (by rfl) (n_str T) (by decide +kernel) rfl) pa_nil))))
      (pss_one (ps_ret (pe_and (pe_callB (isiK K rfl) (by rfl) (n_isinstance T) (by decide +kernel) (pa_cons (pv 0) (pa_cons (pe_bltn (v := .ty "str") (by rfl) (n_str T) (by decide +kernel) rfl) pa_nil))) (pe_one (pe_cmpR op_eq (pv 0) (pv 1) (nomark _))))))
      pss_nil)
      (Evl.pss_cut (ps_if (pt_val (pe_callB (isiK K rfl) (by rfl) (n_isinstance T) (by decide +kernel) (pa_cons (pv 1) (pa_cons (pe_bltn (v := .ty "list") (by rfl) (n_list T) (by decide +kernel) rfl) pa_nil))))
      (pss_one (ps_if (PW.pt (pw_or (pt_not (pt_val (pe_callB (isiK K rfl) (by rfl) (n_isinstance T) (by decide +kernel) (pa_cons (pv 0) (pa_cons (pe_bltn (v := .ty "list") (by rfl) (n_list T) (by decide +kernel) rfl) pa_nil))))) (pw_or1 (pt_cmpR op_ne (pe_callB (lenK K rfl) (by rfl) (n_len T) (by decide +kernel) (pa_cons (pv 0) pa_nil)) (pe_callB (lenK K rfl) (by rfl) (n_len T) (by decide +kernel) (pa_cons (pv 1) pa_nil)) (nomark _)))))
      (pss_one (ps_ret pe_bl))
      pss_nil))
      (pss_one (ps_if (PW.pt (pw_or (pt_not (pt_val (pe_callB (isiK K rfl) (by rfl) (n_isinstance T) (by decide +kernel) (pa_cons (pv 1) (pa_cons (pe_bltn (v := .ty "tuple") (by rfl) (n_tuple T) (by decide +kernel) rfl) pa_nil))))) (pw_or (pt_not (pt_val (pe_callB (isiK K rfl) (by rfl) (n_isinstance T) (by decide +kernel) (pa_cons (pv 0) (pa_cons (pe_bltn (v := .ty "tuple") (by rfl) (n_tuple T) (by decide +kernel) rfl) pa_nil))))) (pw_or1 (pt_cmpR op_ne (pe_callB (lenK K rfl) (by rfl) (n_len T) (by decide +kernel) (pa_cons (pv 0) pa_nil)) (pe_callB (lenK K rfl) (by rfl) (n_len T) (by decide +kernel) (pa_cons (pv 1) pa_nil)) (nomark _))))))
      (pss_one (ps_ret pe_bl))
      pss_nil)))
      (pss_cons (ps_for PassesOwn.never rfl (pi_range1 (by rfl) (n_range T) (pa_cons (pe_callB (lenK K rfl) (by rfl) (n_len T) (by decide +kernel) (pa_cons (pv 1) pa_nil)) pa_nil)) (pg_name (i := 2) sc__law_same.nd rfl (Or.inl rfl))
      (pss_one (ps_if (pt_not (pt_val (pe_callO IH hr rfl (g__law_same T) pass0 (pa_cons (pe_ix (ixQ K rfl) (pv 0) (pv 2) (fun _ _ => rfl)) (pa_cons (pe_ix (ixQ K rfl) (pv 1) (pv 2) (fun _ _ => rfl)) pa_nil)))))
      (pss_one (ps_ret pe_bl))
      pss_nil)))
      (pss_one (ps_ret pe_bl)))))))), ?_⟩
    refine go (K := K) (σ' := [some x, some y, none]) rfl ?_
    cases d with
    | dict _ => cases rx
    | none =>
      cases rx; cases ry
      refine s_if (b := true) (et_test (ev_op (ev_var rfl) ev_c rv_isN)) (fun _ => ?_) (fun z => nomatch z)
      exact s_ret (ev_op (ev_var rfl) ev_c rv_isN) fun H1 e => k _ e
    | bool b =>
      cases rx; cases ry
      refine s_if (b := false) (et_test (ev_op (ev_var rfl) ev_c rv_isN)) (fun z => nomatch z) (fun _ => s_next ?_)
      refine s_if (b := true) (et_B (ev_isi (ev_var rfl) (.bl b) (kD "bool" rfl (by decide +kernel)))) (fun _ => ?_) (fun z => nomatch z)
      refine s_ret (ev_andV (ev_isi (b := true) (ev_var rfl) (.bl b) (kD "bool" rfl (by decide +kernel))) fun _ => ev_op (ev_var rfl) (ev_var rfl) (rv_eq rfl)) fun H1 e => ?_
      rw [decide_eq_true rfl]
      exact k _ e
    | int b =>
      cases rx; cases ry
      refine s_if (b := false) (et_test (ev_op (ev_var rfl) ev_c rv_isN)) (fun z => nomatch z) (fun _ => s_next ?_)
      refine s_if (b := false) (et_B (ev_isi (ev_var rfl) (.int b) (kD "int" rfl (by decide +kernel)))) (fun z => nomatch z) (fun _ => s_next ?_)
      refine s_if (b := true) (et_B (ev_isi (ev_var rfl) (.int b) (kD "int" rfl (by decide +kernel)))) (fun _ => ?_) (fun z => nomatch z)
      refine s_ret (ev_andV (ev_isnum (ev_var rfl) (.int b)) fun _ => ev_op (ev_var rfl) (ev_var rfl) (rv_eq rfl)) fun H1 e => ?_
      rw [decide_eq_true rfl]
      exact k _ e
    | str b =>
      cases rx; cases ry
      refine s_if (b := false) (et_test (ev_op (ev_var rfl) ev_c rv_isN)) (fun z => nomatch z) (fun _ => s_next ?_)
      refine s_if (b := false) (et_B (ev_isi (ev_var rfl) (.str b) (kD "str" rfl (by decide +kernel)))) (fun z => nomatch z) (fun _ => s_next ?_)
      refine s_if (b := false) (et_B (ev_isi (ev_var rfl) (.str b) (kD "str" rfl (by decide +kernel)))) (fun z => nomatch z) (fun _ => s_next ?_)
      refine s_if (b := true) (et_B (ev_isi (ev_var rfl) (.str b) (kD "str" rfl (by decide +kernel)))) (fun _ => ?_) (fun z => nomatch z)
      refine s_ret (ev_andV (ev_isi (b := true) (ev_var rfl) (.str b) (kD "str" rfl (by decide +kernel))) fun _ => ev_op (ev_var rfl) (ev_var rfl) (rv_eq rfl)) fun H1 e => ?_
      rw [decide_eq_true rfl]
      exact k _ e
    | list ds =>
      have rx' := rx
      have ry' := ry
      cases rx with
      | @lst a xs _ h1 _ h3 h4 => cases ry with
        | @lst b ys _ g1 _ g3 g4 =>
          refine s_if (b := false) (et_test (ev_op (ev_var rfl) ev_c rv_isN)) (fun z => nomatch z) (fun _ => s_next ?_)
          refine s_if (b := false) (et_B (ev_isi (ev_var rfl) ry' (kD "list" rfl (by decide +kernel)))) (fun z => nomatch z) (fun _ => s_next ?_)
          refine s_if (b := false) (et_B (ev_isi (ev_var rfl) ry' (kD "list" rfl (by decide +kernel)))) (fun z => nomatch z) (fun _ => s_next ?_)
          refine s_if (b := false) (et_B (ev_isi (ev_var rfl) ry' (kD "list" rfl (by decide +kernel)))) (fun z => nomatch z) (fun _ => s_next ?_)
          have len : xs.length = ys.length := h4.length.trans g4.length.symm
          refine s_ifJ (fun σ' H' => σ' = [some (.ref a), some (.ref b), none] ∧ Lx none H H') (fun _ _ _ => Lx.rfl0) (b := true) (et_B (ev_isi (ev_var rfl) ry' (kD "list" rfl (by decide +kernel)))) (fun _ => ?_) (fun z => nomatch z) ?_
          · refine s_if1 (b := false) (et_is (et_or (et_not (et_B (ev_isi (ev_var rfl) rx' (b := true) (kD "list" rfl (by decide +kernel))))) fun _ => et_test (ev_op (ev_cb (ea_cons (ev_var rfl) ea_nil) (rc_lenLU (.inl (SqL.of h1)) sx_none)) (ev_cb (ea_cons (ev_var rfl) ea_nil) (rc_lenLU (.inl (SqL.of g1)) sx_none)) (rv_ne rfl))) (by rw [len]; simp)) (fun z => nomatch z) (fun _ => s_nx fun H1 e => ⟨rfl, e⟩)
          · rintro σ' H' ⟨rfl, e⟩
            exact same_loop (Nat.lt_of_succ_lt_succ hd) h4 g4 (.inl ⟨h1, g1⟩) h3 g3 e k (by rfl)
    | tuple ds =>
      have rx' := rx
      have ry' := ry
      cases rx with
      | @tup a xs _ h1 _ h3 h4 => cases ry with
        | @tup b ys _ g1 _ g3 g4 =>
          refine s_if (b := false) (et_test (ev_op (ev_var rfl) ev_c rv_isN)) (fun z => nomatch z) (fun _ => s_next ?_)
          refine s_if (b := false) (et_B (ev_isi (ev_var rfl) ry' (kD "tuple" rfl (by decide +kernel)))) (fun z => nomatch z) (fun _ => s_next ?_)
          refine s_if (b := false) (et_B (ev_isi (ev_var rfl) ry' (kD "tuple" rfl (by decide +kernel)))) (fun z => nomatch z) (fun _ => s_next ?_)
          refine s_if (b := false) (et_B (ev_isi (ev_var rfl) ry' (kD "tuple" rfl (by decide +kernel)))) (fun z => nomatch z) (fun _ => s_next ?_)
          have len : xs.length = ys.length := h4.length.trans g4.length.symm
          refine s_ifJ (fun σ' H' => σ' = [some (.ref a), some (.ref b), none] ∧ Lx none H H') (fun _ _ _ => Lx.rfl0) (b := false) (et_B (ev_isi (ev_var rfl) ry' (kD "tuple" rfl (by decide +kernel)))) (fun z => nomatch z) (fun _ => ?_) ?_
          · refine s_if1 (b := false) (et_is (et_or (et_not (et_B (ev_isi (ev_var rfl) ry' (b := true) (kD "tuple" rfl (by decide +kernel))))) fun _ => et_or (et_not (et_B (ev_isi (ev_var rfl) rx' (b := true) (kD "tuple" rfl (by decide +kernel))))) fun _ => et_test (ev_op (ev_cb (ea_cons (ev_var rfl) ea_nil) (rc_lenLU (.inr (SqT.of h1)) sx_none)) (ev_cb (ea_cons (ev_var rfl) ea_nil) (rc_lenLU (.inr (SqT.of g1)) sx_none)) (rv_ne rfl))) (by rw [len]; simp)) (fun z => nomatch z) (fun _ => s_nx fun H1 e => ⟨rfl, e⟩)
          · rintro σ' H' ⟨rfl, e⟩
            exact same_loop (Nat.lt_of_succ_lt_succ hd) h4 g4 (.inr ⟨h1, g1⟩) h3 g3 e k (by rfl)
theorem ok__law_same (T : Txt K mg w) : Ok P w K mg base CX0 6 (He.fAd K ("_law_same", none)) ["actual", "expected"] (sp_same 5) := by
  have all : ∀ n : Nat, Ok P w K mg base CX0 (n + 1) (He.fAd K ("_law_same", none)) ["actual", "expected"] (sp_same n) := fun n => by
    induction n with
    | zero =>
      refine (ok_zero (F__law_same T) (fun _ _ _ _ _ _ us hl => match us, hl with | [_, _], _ => rfl) fun vs H Q E h => ?_).mono (Nat.zero_le _)
      obtain ⟨_, _, _, _, hd, _⟩ := h
      exact nomatch hd
    | succ n ih => exact same_body T n ih
  exact all 5
theorem same_bodyH (T : Txt K mg w) (n : Nat) (IH : OkH P w K mg base CX0 (n + 1) (He.fAd K ("_law_same", none)) ["actual", "expected"] (sp_same n)) : OkH P w K mg base CX0 (n + 1 + 1) (He.fAd K ("_law_same", none)) ["actual", "expected"] (sp_same (n + 1)) := by
  refine okDH (F__law_same T) sc__law_same (fun _ _ _ _ _ _ us hl => match us, hl with | [_, _], _ => rfl) (fun vs H Q E h => ?_) (fun cdv A outer s H vs Q E p hot hr h => ?_)
  · obtain ⟨x, y, d, rfl, _⟩ := h; rfl
  · obtain ⟨x, y, d, rfl, hd, rx, ry, k⟩ := h
    refine ⟨_, (pss_cons (ps_if (pt_cmpR op_isN (pv 1) pe_non (nomark _))
      (pss_one (ps_ret (pe_cmpR op_isN (pv 0) pe_non (nomark _))))
      pss_nil)
      (pss_cons (ps_if (pt_val (pe_callB (isiK K rfl) (by rfl) (n_isinstance T) (by decide +kernel) (pa_cons (pv 1) (pa_cons (pe_bltn (v := .ty "bool") (by rfl) (n_bool T) (by decide +kernel) rfl) pa_nil))))
      (pss_one (ps_ret (pe_and (pe_callB (isiK K rfl) (by rfl) (n_isinstance T) (by decide +kernel) (pa_cons (pv 0) (pa_cons (pe_bltn (v := .ty "bool") (by rfl) (n_bool T) (by decide +kernel) rfl) pa_nil))) (pe_one (pe_cmpR op_eq (pv 0) (pv 1) (nomark _))))))
      pss_nil)
      (pss_cons (ps_if (pt_val (pe_callB (isiK K rfl) (by rfl) (n_isinstance T) (by decide +kernel) (pa_cons (pv 1) (pa_cons (pe_bltn (v := .ty "int") (by rfl) (n_int T) (by decide +kernel) rfl) pa_nil))))
      (pss_one (ps_ret (pe_and (pe_callOH (hot_in hot) (okh__law_is_number T) (hr.mono (by first | decide | omega)) rfl (g__law_is_number T) pass0 (pa_cons (pv 0) pa_nil)) (pe_one (pe_cmpR op_eq (pv 0) (pv 1) (nomark _))))))
      pss_nil)
      (pss_cons (ps_if (pt_val (pe_callB (isiK K rfl) (by rfl) (n_isinstance T) (by decide +kernel) (pa_cons (pv 1) (pa_cons (pe_bltn (v := .ty "str") (by rfl) (n_str T) (by decide +kernel) rfl) pa_nil))))
      (pss_one (ps_ret (pe_and (pe_callB (isiK K rfl) (by rfl) (n_isinstance T) (by decide +kernel) (pa_cons (pv 0) (pa_cons (pe_bltn (v := .ty "str") (by rfl) (n_str T) (by decide +kernel) rfl) pa_nil))) (pe_one (pe_cmpR op_eq (pv 0) (pv 1) (nomark _))))))
      pss_nil)
      (Evl.pss_cut (ps_if (pt_val (pe_callB (isiK K rfl) (by rfl) (n_isinstance T) (by decide +kernel) (pa_cons (pv 1) (pa_cons (pe_bltn (v := .ty "list") (by rfl) (n_list T) (by decide +kernel) rfl) pa_nil))))
      (pss_one (ps_if (PW.pt (pw_or (pt_not (pt_val (pe_callB (isiK K rfl) (by rfl) (n_isinstance T) (by decide +kernel) (pa_cons (pv 0) (pa_cons (pe_bltn (v := .ty "list") (by rfl) (n_list T) (by decide +kernel) rfl) pa_nil))))) (pw_or1 (pt_cmpR op_ne (pe_callB (lenK K rfl) (by rfl) (n_len T) (by decide +kernel) (pa_cons (pv 0) pa_nil)) (pe_callB (lenK K rfl) (by rfl) (n_len T) (by decide +kernel) (pa_cons (pv 1) pa_nil)) (nomark _)))))
      (pss_one (ps_ret pe_bl))
      pss_nil))
      (pss_one (ps_if (PW.pt (pw_or (pt_not (pt_val (pe_callB (isiK K rfl) (by rfl) (n_isinstance T) (by decide +kernel) (pa_cons (pv 1) (pa_cons (pe_bltn (v := .ty "tuple") (by rfl) (n_tuple T) (by decide +kernel) rfl) pa_nil))))) (pw_or (pt_not (pt_val (pe_callB (isiK K rfl) (by rfl) (n_isinstance T) (by decide +kernel) (pa_cons (pv 0) (pa_cons (pe_bltn (v := .ty "tuple") (by rfl) (n_tuple T) (by decide +kernel) rfl) pa_nil))))) (pw_or1 (pt_cmpR op_ne (pe_callB (lenK K rfl) (by rfl) (n_len T) (by decide +kernel) (pa_cons (pv 0) pa_nil)) (pe_callB (lenK K rfl) (by rfl) (n_len T) (by decide +kernel) (pa_cons (pv 1) pa_nil)) (nomark _))))))
      (pss_one (ps_ret pe_bl))
      pss_nil)))
      (pss_cons (L2H.ps_forH PassesOwn.never (hot_in hot) (L2H.pi_range1H (by rfl) (n_range T) (pa_cons (pe_callB (lenK K rfl) (by rfl) (n_len T) (by decide +kernel) (pa_cons (pv 1) pa_nil)) pa_nil)) (pg_name (i := 2) sc__law_same.nd rfl (Or.inl rfl))
      (pss_one (ps_if (pt_not (pt_val (pe_callOH (hot_in hot) IH hr rfl (g__law_same T) pass0 (pa_cons (pe_ix (ixQ K rfl) (pv 0) (pv 2) (fun _ _ => rfl)) (pa_cons (pe_ix (ixQ K rfl) (pv 1) (pv 2) (fun _ _ => rfl)) pa_nil)))))
      (pss_one (ps_ret pe_bl))
      pss_nil)))
      (pss_one (ps_ret pe_bl)))))))), ?_⟩
    refine go (K := K) (σ' := [some x, some y, none]) rfl ?_
    cases d with
    | dict _ => cases rx
    | none =>
      cases rx; cases ry
      refine s_if (b := true) (et_test (ev_op (ev_var rfl) ev_c rv_isN)) (fun _ => ?_) (fun z => nomatch z)
      exact s_ret (ev_op (ev_var rfl) ev_c rv_isN) fun H1 e => k _ e
    | bool b =>
      cases rx; cases ry
      refine s_if (b := false) (et_test (ev_op (ev_var rfl) ev_c rv_isN)) (fun z => nomatch z) (fun _ => s_next ?_)
      refine s_if (b := true) (et_B (ev_isi (ev_var rfl) (.bl b) (kD "bool" rfl (by decide +kernel)))) (fun _ => ?_) (fun z => nomatch z)
      refine s_ret (ev_andV (ev_isi (b := true) (ev_var rfl) (.bl b) (kD "bool" rfl (by decide +kernel))) fun _ => ev_op (ev_var rfl) (ev_var rfl) (rv_eq rfl)) fun H1 e => ?_
      rw [decide_eq_true rfl]
      exact k _ e
    | int b =>
      cases rx; cases ry
      refine s_if (b := false) (et_test (ev_op (ev_var rfl) ev_c rv_isN)) (fun z => nomatch z) (fun _ => s_next ?_)
      refine s_if (b := false) (et_B (ev_isi (ev_var rfl) (.int b) (kD "int" rfl (by decide +kernel)))) (fun z => nomatch z) (fun _ => s_next ?_)
      refine s_if (b := true) (et_B (ev_isi (ev_var rfl) (.int b) (kD "int" rfl (by decide +kernel)))) (fun _ => ?_) (fun z => nomatch z)
      refine s_ret (ev_andV (ev_isnum (ev_var rfl) (.int b)) fun _ => ev_op (ev_var rfl) (ev_var rfl) (rv_eq rfl)) fun H1 e => ?_
      rw [decide_eq_true rfl]
      exact k _ e
    | str b =>
      cases rx; cases ry
      refine s_if (b := false) (et_test (ev_op (ev_var rfl) ev_c rv_isN)) (fun z => nomatch z) (fun _ => s_next ?_)
      refine s_if (b := false) (et_B (ev_isi (ev_var rfl) (.str b) (kD "str" rfl (by decide +kernel)))) (fun z => nomatch z) (fun _ => s_next ?_)
      refine s_if (b := false) (et_B (ev_isi (ev_var rfl) (.str b) (kD "str" rfl (by decide +kernel)))) (fun z => nomatch z) (fun _ => s_next ?_)
      refine s_if (b := true) (et_B (ev_isi (ev_var rfl) (.str b) (kD "str" rfl (by decide +kernel)))) (fun _ => ?_) (fun z => nomatch z)
      refine s_ret (ev_andV (ev_isi (b := true) (ev_var rfl) (.str b) (kD "str" rfl (by decide +kernel))) fun _ => ev_op (ev_var rfl) (ev_var rfl) (rv_eq rfl)) fun H1 e => ?_
      rw [decide_eq_true rfl]
      exact k _ e
    | list ds =>
      have rx' := rx
      have ry' := ry
      cases rx with
      | @lst a xs _ h1 _ h3 h4 => cases ry with
        | @lst b ys _ g1 _ g3 g4 =>
          refine s_if (b := false) (et_test (ev_op (ev_var rfl) ev_c rv_isN)) (fun z => nomatch z) (fun _ => s_next ?_)
          refine s_if (b := false) (et_B (ev_isi (ev_var rfl) ry' (kD "list" rfl (by decide +kernel)))) (fun z => nomatch z) (fun _ => s_next ?_)
          refine s_if (b := false) (et_B (ev_isi (ev_var rfl) ry' (kD "list" rfl (by decide +kernel)))) (fun z => nomatch z) (fun _ => s_next ?_)
          refine s_if (b := false) (et_B (ev_isi (ev_var rfl) ry' (kD "list" rfl (by decide +kernel)))) (fun z => nomatch z) (fun _ => s_next ?_)
          have len : xs.length = ys.length := h4.length.trans g4.length.symm
          refine s_ifJ (fun σ' H' => σ' = [some (.ref a), some (.ref b), none] ∧ Lx none H H') (fun _ _ _ => Lx.rfl0) (b := true) (et_B (ev_isi (ev_var rfl) ry' (kD "list" rfl (by decide +kernel)))) (fun _ => ?_) (fun z => nomatch z) ?_
          · refine s_if1 (b := false) (et_is (et_or (et_not (et_B (ev_isi (ev_var rfl) rx' (b := true) (kD "list" rfl (by decide +kernel))))) fun _ => et_test (ev_op (ev_cb (ea_cons (ev_var rfl) ea_nil) (rc_lenLU (.inl (SqL.of h1)) sx_none)) (ev_cb (ea_cons (ev_var rfl) ea_nil) (rc_lenLU (.inl (SqL.of g1)) sx_none)) (rv_ne rfl))) (by rw [len]; simp)) (fun z => nomatch z) (fun _ => s_nx fun H1 e => ⟨rfl, e⟩)
          · rintro σ' H' ⟨rfl, e⟩
            exact same_loop (Nat.lt_of_succ_lt_succ hd) h4 g4 (.inl ⟨h1, g1⟩) h3 g3 e k (by rfl)
    | tuple ds =>
      have rx' := rx
      have ry' := ry
      cases rx with
      | @tup a xs _ h1 _ h3 h4 => cases ry with
        | @tup b ys _ g1 _ g3 g4 =>
          refine s_if (b := false) (et_test (ev_op (ev_var rfl) ev_c rv_isN)) (fun z => nomatch z) (fun _ => s_next ?_)
          refine s_if (b := false) (et_B (ev_isi (ev_var rfl) ry' (kD "tuple" rfl (by decide +kernel)))) (fun z => nomatch z) (fun _ => s_next ?_)
          refine s_if (b := false) (et_B (ev_isi (ev_var rfl) ry' (kD "tuple" rfl (by decide +kernel)))) (fun z => nomatch z) (fun _ => s_next ?_)
          refine s_if (b := false) (et_B (ev_isi (ev_var rfl) ry' (kD "tuple" rfl (by decide +kernel)))) (fun z => nomatch z) (fun _ => s_next ?_)
          have len : xs.length = ys.length := h4.length.trans g4.length.symm
          refine s_ifJ (fun σ' H' => σ' = [some (.ref a), some (.ref b), none] ∧ Lx none H H') (fun _ _ _ => Lx.rfl0) (b := false) (et_B (ev_isi (ev_var rfl) ry' (kD "tuple" rfl (by decide +kernel)))) (fun z => nomatch z) (fun _ => ?_) ?_
          · refine s_if1 (b := false) (et_is (et_or (et_not (et_B (ev_isi (ev_var rfl) ry' (b := true) (kD "tuple" rfl (by decide +kernel))))) fun _ => et_or (et_not (et_B (ev_isi (ev_var rfl) rx' (b := true) (kD "tuple" rfl (by decide +kernel))))) fun _ => et_test (ev_op (ev_cb (ea_cons (ev_var rfl) ea_nil) (rc_lenLU (.inr (SqT.of h1)) sx_none)) (ev_cb (ea_cons (ev_var rfl) ea_nil) (rc_lenLU (.inr (SqT.of g1)) sx_none)) (rv_ne rfl))) (by rw [len]; simp)) (fun z => nomatch z) (fun _ => s_nx fun H1 e => ⟨rfl, e⟩)
          · rintro σ' H' ⟨rfl, e⟩
            exact same_loop (Nat.lt_of_succ_lt_succ hd) h4 g4 (.inr ⟨h1, g1⟩) h3 g3 e k (by rfl)
theorem okh__law_same (T : Txt K mg w) : OkH P w K mg base CX0 6 (He.fAd K ("_law_same", none)) ["actual", "expected"] (sp_same 5) := by
  have all : ∀ n : Nat, OkH P w K mg base CX0 (n + 1) (He.fAd K ("_law_same", none)) ["actual", "expected"] (sp_same n) := fun n => by
    induction n with
    | zero =>
      refine (ok_zeroH (F__law_same T) (fun _ _ _ _ _ _ us hl => match us, hl with | [_, _], _ => rfl) fun vs H Q E h => ?_).mono (Nat.zero_le _)
      obtain ⟨_, _, _, _, hd, _⟩ := h
      exact nomatch hd
    | succ n ih => exact same_bodyH T n ih
  exact all 5
/-! _law_is_good -/
def a_isgood : List V → Hp → Dst → (V → Hp → Prop) → Prop := fun vs H S PP => S = none ∧ ∃ (v : V) (q : Addr) (s : Stm) (n last : Nat) (borne : List Int), vs = [v, .int (n : Int), .int (last : Int), .ref q] ∧ StmA none H v s ∧ H q = some (.lst (borne.map .int)) ∧ PP = fun v _ => v = .bl (goodB n last borne s)
theorem flat_int {xs : List Int} : (xs.map V.int).all flatV = true := by
  rw [List.all_eq_true]
  intro x hx
  obtain ⟨y, _, rfl⟩ := List.mem_map.mp hx
  rfl
theorem inV_int {y : Int} {xs : List Int} : inV (.int y) (xs.map V.int) = xs.contains y := by
  induction xs with
  | nil => rfl
  | cons x xs ih =>
    rw [List.map_cons, List.contains_cons, ← ih]
    simp only [inV, List.any_cons]
    congr 1
    simp only [eqV]
    rw [Bool.eq_iff_iff]
    simp only [beq_iff_eq, decide_eq_true_iff]
    exact eq_comm
theorem ok__law_is_good (T : Txt K mg w) : Ok P w K mg base CX0 1 (He.fAd K ("_law_is_good", none)) ["statement", "size", "last", "borne"] (sp_x a_isgood) := by
  refine okD (F__law_is_good T) sc__law_is_good (fun _ _ _ _ _ _ us hl => match us, hl with | [_, _, _, _], _ => rfl) (fun vs H Q E h => ?_) (fun cdv A outer s H vs Q E hr h => ?_)
  · obtain ⟨S, PP, ⟨rfl, v, q, s, n, last, borne, rfl, _⟩, _⟩ := h; rfl
  · obtain ⟨S, PP, ⟨rfl, v, q, s, n, last, borne, rfl, ⟨p, rfl, hp, _, hl⟩, hq, rfl⟩, _, k⟩ := h
    refine ⟨_, (pss_cons (ps_if (PW.pt (pw_or (pt_cmpR op_lt (pe_callB (lenK K rfl) (by rfl) (n_len T) (by decide +kernel) (pa_cons (pv 0) pa_nil)) pe_int (nomark _)) (pw_or1 (pt_cmpR (notInK K rfl) (pe_ix (ixU K rfl) (pv 0) pe_int (fun _ _ => rfl)) (pe_lst (pa_cons pe_str (pa_cons pe_str (pa_cons pe_str pa_nil)))) (by rfl)))))
      (pss_one (ps_ret pe_bl))
      pss_nil)
      (pss_cons (ps_if (PW.pt (pw_and (pt_cmpR op_eq (pe_ix (ixU K rfl) (pv 0) pe_int (fun _ _ => rfl)) pe_str (nomark _)) (pw_and1 (pt_cmpR op_ne (pe_callB (lenK K rfl) (by rfl) (n_len T) (by decide +kernel) (pa_cons (pv 0) pa_nil)) pe_int (nomark _)))))
      (pss_one (ps_ret pe_bl))
      pss_nil)
      (pss_cons (ps_for PassesOwn.never rfl (piUK K rfl (pe_slice (slUK K rfl) (pv 0) (po_some pe_int) po_none)) (pg_name (i := 4) sc__law_is_good.nd rfl (Or.inl rfl))
      (pss_one (ps_if (pt_not (pt_chain op_le op_lt pe_int (pv 4) (pv 1)))
      (pss_one (ps_ret pe_bl))
      pss_nil)))
      (pss_cons (ps_if (pt_cmpR op_eq (pe_ix (ixU K rfl) (pv 0) pe_int (fun _ _ => rfl)) pe_str (nomark _))
      (pss_one (ps_ret (pe_and (pe_cmpR op_gt (pe_ix (ixU K rfl) (pv 0) pe_int (fun _ _ => rfl)) (pv 2) (nomark _)) (pe_one (pe_cmpR (notInK K rfl) (pe_ix (ixU K rfl) (pv 0) pe_int (fun _ _ => rfl)) (pv 3) (by rfl))))))
      pss_nil)
      (pss_one (ps_ret pe_bl)))))), ?_⟩
    refine go (K := K) (σ' := [some (.ref p), some (.int (n : Int)), some (.int (last : Int)), some (.ref q), none]) rfl ?_
    match s, hp, k with
    | none, hp, k =>
      exact s_if (b := true) (et_is (et_or (c := false) (et_test (ev_op (ev_cb (ea_cons (ev_var rfl) ea_nil) (rc_lenT (UA.of hp sx_none))) ev_c rv_I0)) fun z => nomatch z) rfl) (fun _ => s_ret ev_c fun H1 e => k _ _ e rfl) (fun z => nomatch z)
    | some (w0, ns), hp, k =>
      have lp : ∀ {σ : L2.St} {t0 : TE} {H' : Hp}, Lx none H H' → Ev K none t0 σ H' (.ref p) → Ev K none (tCB (rLn K) (tCons t0 tNil)) σ H' (.int ((ns.length : Int) + 1)) := fun e h => ev_is (ev_cb (ea_cons h ea_nil) (rc_lenT (UA.of (e.1 _ _ sx_none hp) sx_none))) (by simp [stV])
      have p0 : ∀ {σ : L2.St} {t0 : TE} {H' : Hp}, Lx none H H' → Ev K none t0 σ H' (.ref p) → Ev K none (tOp (rIxT K) t0 (tC (.int 0))) σ H' (.str w0) := fun e h => ev_op h ev_c (rv_ixT (UA.of (e.1 _ _ sx_none hp) sx_none) (at_of (j := 0) rfl rfl))
      have vb0 : goodB n last borne (some (w0, ns)) = (decide (1 ≤ ns.length) && ((decide (w0 = "bear") || (decide (w0 = "wait") || decide (w0 = "any"))) && ((!decide (w0 = "bear") || decide (ns.length = 1)) && (ns.all (fun t => decide (0 ≤ t) && decide (t < (n : Int))) && (!decide (w0 = "bear") || (decide ((last : Int) < ns.headD 0) && !borne.contains (ns.headD 0))))))) := rfl
      have em : (if true = true then !inV (V.str w0) [V.str "bear", V.str "wait", V.str "any"] else inV (V.str w0) [V.str "bear", V.str "wait", V.str "any"]) = !(decide (w0 = "bear") || (decide (w0 = "wait") || decide (w0 = "any"))) := by
        rw [if_pos rfl]
        simp only [inV, eqV, List.any_cons, List.any_nil, Bool.or_false]
        congr 1
        rw [Bool.eq_iff_iff]
        simp only [Bool.or_eq_true, decide_eq_true_iff, beq_iff_eq]
        exact ⟨fun z => z.imp Eq.symm (fun z => z.imp Eq.symm Eq.symm), fun z => z.imp Eq.symm (fun z => z.imp Eq.symm Eq.symm)⟩
      refine s_ifX (PB := fun b _ => b = !(decide (1 ≤ ns.length) && (decide (w0 = "bear") || (decide (w0 = "wait") || decide (w0 = "any"))))) (etx_or (b := decide (ns.length < 1)) (et_is (et_test (ev_op (lp Lx.rfl0 (ev_var rfl)) ev_c rv_I0)) (by rw [Bool.eq_iff_iff, decide_eq_true_iff, decide_eq_true_iff]; omega)) (fun h1 => etx_test (ex_op2 (p0 Lx.rfl0 (ev_var rfl)) (ex_lst (vs := [.str "bear", .str "wait", .str "any"]) (ea_cons ev_c (ea_cons ev_c (ea_cons ev_c ea_nil))) (len_le (by simp))) ?_)) (fun h1 H2 e2 => ?_)) ?_ ?_
      · rintro _ G1 f1 ⟨r, rfl, _, nr, hr⟩
        refine (ev_op ev_c ev_c (rv_inL (neg := true) (LA.of hr nr) rfl rfl)).toX.imp fun w G f z => ⟨_, z, ?_⟩
        rw [em]
        have : ¬ ns.length < 1 := of_decide_eq_false h1
        rw [show decide (1 ≤ ns.length) = true from decide_eq_true (by omega), Bool.true_and]
      · have : ns.length < 1 := of_decide_eq_true h1
        rw [show decide (1 ≤ ns.length) = false from decide_eq_false (by omega)]
        rfl
      · intro H1 e1 hb
        refine s_ret ev_c fun H2 e2 => k _ _ (e1.trans e2) ?_
        rw [vb0]
        cases c1 : decide (1 ≤ ns.length) <;> cases c2 : (decide (w0 = "bear") || (decide (w0 = "wait") || decide (w0 = "any"))) <;> rw [c1, c2] at hb <;> first | rfl | cases hb
      intro H1 e1 hb
      have ⟨c1, c2⟩ : decide (1 ≤ ns.length) = true ∧ (decide (w0 = "bear") || (decide (w0 = "wait") || decide (w0 = "any"))) = true := by
        cases c1 : decide (1 ≤ ns.length) <;> cases c2 : (decide (w0 = "bear") || (decide (w0 = "wait") || decide (w0 = "any"))) <;> rw [c1, c2] at hb <;> first | exact ⟨rfl, rfl⟩ | cases hb
      rw [vb0, c1, c2, Bool.true_and, Bool.true_and] at k
      refine s_next ?_
      refine s_if (b := decide (w0 = "bear") && !decide (ns.length = 1)) (et_is (et_and (et_test (ev_op (p0 e1 (ev_var rfl)) ev_c (rv_eq rfl))) fun _ => et_test (ev_op (lp e1 (ev_var rfl)) ev_c (rv_ne rfl))) (by rw [show decide (V.int ((ns.length : Int) + 1) = V.int 2) = decide (ns.length = 1) by rw [Bool.eq_iff_iff, decide_eq_true_iff, decide_eq_true_iff, V.int.injEq]; omega]; simp)) (fun hb => ?_) (fun hb => s_next ?_)
      · refine s_ret ev_c fun H2 e2 => k _ _ (e1.trans e2) ?_
        cases c3 : decide (w0 = "bear") <;> cases c4 : decide (ns.length = 1) <;> rw [c3, c4] at hb <;> first | rfl | cases hb
      have c3 : (!decide (w0 = "bear") || decide (ns.length = 1)) = true := by
        cases c3 : decide (w0 = "bear") <;> cases c4 : decide (ns.length = 1) <;> rw [c3, c4] at hb <;> first | rfl | cases hb
      rw [c3, Bool.true_and] at k
      refine s_forTX (ex_tl (ev_var rfl) (UA.of (e1.1 _ _ sx_none hp) sx_none)) ?_
      rintro _ H2 e2 ⟨r, rfl, _, _, hr⟩
      have e02 := e1.trans e2
      refine s_forTn ev_c (UA.of hr sx_none) (fun i σ' H' => (∃ v4, σ' = [some (.ref p), some (.int (n : Int)), some (.int (last : Int)), some (.ref q), v4]) ∧ Lx none H2 H' ∧ ∀ m t, ns[m]? = some t → m < i → 0 ≤ t ∧ t < (n : Int)) wf0 (fun H3 e3 => ⟨⟨_, rfl⟩, e3, fun m t _ z => absurd z (Nat.not_lt_zero m)⟩) (fun i σ' H' _ z => (UA.of hr sx_none).mono z.2.1) ?_ ?_
      · rintro i x σ' H3 hi ⟨⟨v4, rfl⟩, e3, ok⟩
        dsimp only [List.set]
        rw [List.getElem?_map] at hi
        obtain ⟨t, ht, rfl⟩ := Option.map_eq_some_iff.mp hi
        refine s_if1 (b := !(decide (0 ≤ t) && decide (t < (n : Int)))) (et_not (et_test (ev_chain ev_c (ev_var rfl) rv_I0 (fun _ => ev_var rfl) fun _ => rv_I0))) (fun hb => ?_) (fun hb => ?_)
        · refine s_ret ev_c fun H4 e4 => k _ _ ((e02.trans e3).trans e4) ?_
          have : ns.all (fun t => decide (0 ≤ t) && decide (t < (n : Int))) = false := by
            rw [Bool.eq_false_iff]
            intro z
            have := List.all_eq_true.mp z t (List.mem_of_getElem? ht)
            rw [this] at hb
            cases hb
          rw [this]
          rfl
        · refine s_nx fun H4 e4 => ⟨⟨_, rfl⟩, e3.trans e4, fun m t' hm lt => ?_⟩
          by_cases e : m = i
          · subst e
            rw [ht] at hm
            cases hm
            simpa using hb
          · exact ok m t' hm (by omega)
      · rintro σ' H3 ⟨⟨v4, rfl⟩, e3, ok⟩
        rw [List.length_map] at ok
        have e03 := e02.trans e3
        have al : ns.all (fun t => decide (0 ≤ t) && decide (t < (n : Int))) = true := List.all_eq_true.mpr fun t ht => by
          obtain ⟨m, lm, em⟩ := List.mem_iff_getElem.mp ht
          have := ok m t (by rw [← em]; exact List.getElem?_eq_getElem lm) lm
          simp [this]
        rw [al, Bool.true_and] at k
        refine s_if (b := decide (w0 = "bear")) (et_is (et_test (ev_op (p0 e03 (ev_var rfl)) ev_c (rv_eq rfl))) (by simp)) (fun hb => ?_) (fun hb => s_next ?_)
        · have wb := of_decide_eq_true hb
          subst wb
          match ns, hp, al, c1, k with
          | [], hp, al, c1, k => exact absurd c1 (by decide)
          | t :: ns, hp, al, c1, k =>
            have p1 : ∀ {σ : L2.St} {t0 : TE} {H' : Hp}, Lx none H H' → Ev K none t0 σ H' (.ref p) → Ev K none (tOp (rIxT K) t0 (tC (.int 1))) σ H' (.int t) := fun e h => ev_op h ev_c (rv_ixT (UA.of (e.1 _ _ sx_none hp) sx_none) (at_of (j := 1) rfl rfl))
            exact s_ret (ev_andV (ev_op (p1 e03 (ev_var rfl)) (ev_var rfl) rv_I0) fun _ => ev_op (p1 e03 (ev_var rfl)) (ev_var rfl) (rv_inL (neg := true) (LA.of (e03.1 _ _ sx_none hq) sx_none) rfl flat_int)) fun H4 e4 => k _ _ (e03.trans e4) (by rw [if_pos rfl, inV_int]; simp)
        · rw [hb] at k
          exact s_ret ev_c fun H4 e4 => k _ _ (e03.trans e4) rfl
/-! _law_program_fault -/
/-- what the law tells of bodies at fault -/
def FaultR (H0 : Hp) (fa : Option (Nat × Option Nat)) (v : V) (H : Hp) : Prop := match fa with
  | none => v = .non
  | some (s, i) => ∃ p, v = .ref p ∧ H0 p = none ∧ H p = some (.tup [.str "bad program", .int (s : Int), oN i])
def a_pfault : List V → Hp → Dst → (V → Hp → Prop) → Prop := fun vs H S PP => S = none ∧ ∃ (a : Addr) (as : List Addr) (bs : List (List Stm)), vs = [.ref a] ∧ BodsM none H a as bs ∧ bs.length ≤ 900 ∧ (∀ ss ∈ bs, ss.length ≤ 900) ∧ PP = FaultR H (faultP bs)
theorem borne_one : BorneOf [0] (fun _ => none) := fun t => by simp
theorem borne_set {borne : List Int} {par : Nat → Option Nat} {u m : Nat} (h : BorneOf borne par) : BorneOf (borne ++ [(u : Int)]) (setN par u m) := fun t => by
  rw [List.mem_append, List.mem_singleton, h t]
  by_cases e : t = u
  · subst e; simp [setN]
  · have : ¬ (t : Int) = (u : Int) := by omega
    simp [setN, e, this]
theorem ok__law_program_fault (T : Txt K mg w) : Ok P w K mg base CX0 2 (He.fAd K ("_law_program_fault", none)) ["bodies"] (sp_x a_pfault) := by
  refine okD (F__law_program_fault T) sc__law_program_fault (fun _ _ _ _ _ _ us hl => match us, hl with | [_], _ => rfl) (fun vs H Q E h => ?_) (fun cdv A outer s H vs Q E hr h => ?_)
  · obtain ⟨S, PP, ⟨rfl, a, as, bs, rfl, _⟩, _⟩ := h; rfl
  · obtain ⟨S, PP, ⟨rfl, a, as, bs, rfl, bm, l9, ll, rfl⟩, _, k⟩ := h
    refine ⟨_, (pss_cons (ps_set (i := 1) sc__law_program_fault.nd rfl (Or.inl rfl) (pe_callB (lenK K rfl) (by rfl) (n_len T) (by decide +kernel) (pa_cons (pv 0) pa_nil)))
      (pss_cons (ps_if (pt_cmpR op_eq (pv 1) pe_int (nomark _))
      (pss_one (ps_ret (pe_tup (pa_cons pe_str (pa_cons pe_int (pa_cons pe_non pa_nil))))))
      pss_nil)
      (pss_cons (ps_set (i := 2) sc__law_program_fault.nd rfl (Or.inl rfl) (pe_lst (pa_cons pe_int pa_nil)))
      (pss_cons (ps_for PassesOwn.never rfl (pi_range1 (by rfl) (n_range T) (pa_cons (pv 1) pa_nil)) (pg_name (i := 3) sc__law_program_fault.nd rfl (Or.inl rfl))
      (pss_cons (ps_set (i := 4) sc__law_program_fault.nd rfl (Or.inl rfl) (pv 3))
      (pss_cons (ps_set (i := 5) sc__law_program_fault.nd rfl (Or.inl rfl) (pe_ix (ixL K rfl) (pv 0) (pv 3) (fun _ _ => rfl)))
      (pss_one (ps_for PassesOwn.never rfl (pi_range1 (by rfl) (n_range T) (pa_cons (pe_callB (lenK K rfl) (by rfl) (n_len T) (by decide +kernel) (pa_cons (pv 5) pa_nil)) pa_nil)) (pg_name (i := 6) sc__law_program_fault.nd rfl (Or.inl rfl))
      (pss_cons (ps_if (pt_not (pt_val (pe_callO (ok__law_is_good T) (hr.mono (by first | decide | omega)) rfl (g__law_is_good T) pass0 (pa_cons (pe_ix (ixL K rfl) (pv 5) (pv 6) (fun _ _ => rfl)) (pa_cons (pv 1) (pa_cons (pv 4) (pa_cons (pv 2) pa_nil)))))))
      (pss_one (ps_ret (pe_tup (pa_cons pe_str (pa_cons (pv 3) (pa_cons (pv 6) pa_nil))))))
      pss_nil)
      (pss_one (ps_if (pt_cmpR op_eq (pe_ix (ixU K rfl) (pe_ix (ixL K rfl) (pv 5) (pv 6) (fun _ _ => rfl)) pe_int (fun _ _ => rfl)) pe_str (nomark _))
      (pss_cons (ps_set (i := 4) sc__law_program_fault.nd rfl (Or.inl rfl) (pe_ix (ixU K rfl) (pe_ix (ixL K rfl) (pv 5) (pv 6) (fun _ _ => rfl)) pe_int (fun _ _ => rfl)))
      (pss_one (ps_expr (bmK K rfl PySem.F.plainAttrs_list PySem.F.slot_list_append PySem.F.type_list_append mt_append (pv 2) (pa_cons (pv 4) pa_nil)))))
      pss_nil))))))))
      (pss_cons (ps_for PassesOwn.never rfl (pi_range2 (by rfl) (n_range T) (pa_cons pe_int (pa_cons (pv 1) pa_nil))) (pg_name (i := 3) sc__law_program_fault.nd rfl (Or.inl rfl))
      (pss_one (ps_if (pt_cmpR (notInK K rfl) (pv 3) (pv 2) (by rfl))
      (pss_one (ps_ret (pe_tup (pa_cons pe_str (pa_cons (pv 3) (pa_cons pe_non pa_nil))))))
      pss_nil)))
      (pss_one (ps_ret pe_non))))))), ?_⟩
    refine go (K := K) (σ' := [some (.ref a), none, none, none, none, none, none]) rfl ?_
    refine s_asg (v := .int (bs.length : Int)) (ev_is (ev_cb (ea_cons (ev_var rfl) ea_nil) (rc_len (LA.of bm.at_ sx_none))) (by rw [List.length_map, bm.len])) ?_
    dsimp only [List.set]
    have tup : ∀ {σ : L2.St} {G : Hp} {tas : TA} {s : Nat} {i : Option Nat}, Lx none H G → faultP bs = some (s, i) → EvA K none tas σ G [.str "bad program", .int (s : Int), oN i] → EvX K none (tTup tas) σ G fun v H2 => FaultR H (faultP bs) v H2 := fun {σ G tas s i} e hf h => (ex_tup h (len_le (by simp))).imp fun v G2 f2 z => by
      obtain ⟨p, rfl, fp, _, hp⟩ := z
      rw [hf]
      exact ⟨p, rfl, e.fresh fp, hp⟩
    refine s_if (b := decide (bs.length = 0)) (et_is (et_test (ev_op (ev_var rfl) ev_c (rv_eq rfl))) (by simp)) (fun hz => ?_) (fun hz => s_next ?_)
    · exact s_retX (tup (s := 0) (i := none) Lx.rfl0 (by unfold faultP; rw [if_pos (of_decide_eq_true hz)]) (ea_cons ev_c (ea_cons ev_c (ea_cons ev_c ea_nil)))) k
    have nz : ¬ bs.length = 0 := of_decide_eq_false hz
    have hf : faultP bs = match goA bs.length 0 bs (fun _ => none) with
      | .error (s, i) => some (s, some i)
      | .ok par => (lack par 1 (bs.length - 1)).map fun s => (s, none) := by
      unfold faultP
      rw [if_neg nz] <;> rfl
    refine s_asgX (ex_lst (vs := [.int 0]) (ea_cons ev_c ea_nil) (len_le (by simp))) ?_
    rintro _ H1 e1 ⟨q, rfl, fq, _, hq⟩
    dsimp only [List.set]
    refine s_forRn (n := (bs.length : Int)) (ea_cons (ev_var rfl) ea_nil) ⟨by omega, by omega⟩ (fun m σ' H' => (∃ v3 v4 v5 v6, σ' = [some (.ref a), some (.int (bs.length : Int)), some (.ref q), v3, v4, v5, v6]) ∧ Lx none H H' ∧ ∃ par borne, H' q = some (.lst (borne.map .int)) ∧ borne.length ≤ 1 + m * 900 ∧ BorneOf borne par ∧ goA bs.length m (bs.drop m) par = goA bs.length 0 bs (fun _ => none)) wf0 (fun H2 e2 => ⟨⟨_, _, _, _, rfl⟩, e1.trans e2, _, [0], e2.1 _ _ sx_none hq, by simp, borne_one, by simp⟩) ?_ ?_
    · rintro m σ' H2 hm ⟨⟨v3, v4, v5, v6, rfl⟩, e2, par, borne, hq2, lb, bo, go0⟩
      dsimp only [List.set]
      have lm : m < bs.length := by omega
      obtain ⟨b, ss, h1, h2, nb, zs, hzs, rel⟩ := bm.body lm
      have dm : bs.drop m = bs[m] :: bs.drop (m + 1) := List.drop_eq_getElem_cons lm
      have em : bs[m] = ss := by rw [List.getElem?_eq_getElem lm] at h2; cases h2; rfl
      have ls := ll ss (List.mem_of_getElem? h2)
      rw [dm, em] at go0
      refine s_asg (ev_var rfl) ?_
      dsimp only [List.set]
      refine s_asg (v := .ref b) (ev_op (ev_var rfl) (ev_var rfl) (rv_ixL (LA.of (e2.1 _ _ sx_none bm.at_) sx_none) (at_of (j := m) rfl (by rw [List.getElem?_map, h1]; rfl)))) ?_
      dsimp only [List.set]
      have qb : b ≠ q := fun z => by rw [z, fq] at hzs; cases hzs
      refine s_forRn1 (n := (ss.length : Int)) (ea_cons (ev_is (ev_cb (ea_cons (ev_var rfl) ea_nil) (rc_len (LA.of (e2.1 _ _ sx_none hzs) sx_none))) (by rw [rel.1])) ea_nil) ⟨by omega, by omega⟩ (fun i σ' H' => (∃ v6 last, σ' = [some (.ref a), some (.int (bs.length : Int)), some (.ref q), some (.int (m : Int)), some (.int ((last : Nat) : Int)), some (.ref b), v6] ∧ ∃ par' borne, H' q = some (.lst (borne.map .int)) ∧ borne.length ≤ 1 + m * 900 + i ∧ BorneOf borne par' ∧ goB bs.length m i (ss.drop i) last par' = goB bs.length m 0 ss m par) ∧ Lx none H H') wf0 (fun H4 e4 => ⟨⟨_, m, rfl, par, borne, e4.1 _ _ sx_none hq2, lb, bo, rfl⟩, e2.trans e4⟩) ?_ ?_
      · rintro i σ' H4 hi ⟨⟨v6, last, rfl, par', borne, hq4, lb4, bo4, go1⟩, e4⟩
        dsimp only [List.set]
        have li : i < ss.length := by omega
        have di : ss.drop i = ss[i] :: ss.drop (i + 1) := List.drop_eq_getElem_cons li
        obtain ⟨y, s, y1, y2, sm⟩ := rel.get li
        have es : ss[i] = s := by rw [List.getElem?_eq_getElem li] at y2; cases y2; rfl
        rw [di, es] at go1
        have gu : goB bs.length m i (s :: ss.drop (i + 1)) last par' = if validB bs.length last par' s then goB bs.length m (i + 1) (ss.drop (i + 1)) (lastOf last s) (parOf m par' s) else .error i := rfl
        rw [gu] at go1
        have st : ∀ {σ : L2.St} {t1 t2 : TE} {G : Hp}, Lx none H G → Ev K none t1 σ G (.ref b) → Ev K none t2 σ G (.int (i : Int)) → Ev K none (tOp (rIxL K) t1 t2) σ G y := fun e h1 h2 => ev_op h1 h2 (rv_ixL (LA.of (e.1 _ _ sx_none hzs) sx_none) (at_of (j := i) rfl y1))
        have gv := good_valid (n := bs.length) (last := last) bo4 s
        refine s_if (b := !validB bs.length last par' s) (et_not (et_B (ev_p0 (ea_cons (st e4 (ev_var rfl) (ev_var rfl)) (ea_cons (ev_var rfl) (ea_cons (ev_var rfl) (ea_cons (ev_var rfl) ea_nil)))) fun G f => ⟨rfl, y, q, s, bs.length, last, borne, rfl, sm.mono (e4.trans f), f.1 _ _ sx_none hq4, by rw [gv]⟩))) (fun hv => ?_) (fun hv => s_next ?_)
        · have hv' : validB bs.length last par' s = false := by simpa using hv
          rw [hv', if_neg Bool.false_ne_true] at go1
          have ga : goA bs.length m (ss :: bs.drop (m + 1)) par = .error (m, i) := by
            unfold goA
            rw [← go1]
          exact s_retX (tup (s := m) (i := some i) e4 (by rw [hf, ← go0, ga]) (ea_cons ev_c (ea_cons (ev_var rfl) (ea_cons (ev_var rfl) ea_nil)))) fun v H6 e6 z => k v H6 (e4.trans e6) z
        · have hv' : validB bs.length last par' s = true := by simpa using hv
          rw [hv', if_pos rfl] at go1
          obtain ⟨p, rfl, hp, _, hlen⟩ := sm
          match s, hv', hp, go1 with
          | some (w0, ns), hv', hp, go1 =>
            have p0 : ∀ {σ : L2.St} {t0 : TE} {H' : Hp}, Lx none H H' → Ev K none t0 σ H' (.ref p) → Ev K none (tOp (rIxT K) t0 (tC (.int 0))) σ H' (.str w0) := fun e h => ev_op h ev_c (rv_ixT (UA.of (e.1 _ _ sx_none hp) sx_none) (at_of (j := 0) rfl rfl))
            refine s_if1 (b := decide (w0 = "bear")) (et_is (et_test (ev_op (p0 e4 (st e4 (ev_var rfl) (ev_var rfl))) ev_c (rv_eq rfl))) (by simp)) (fun hw => ?_) (fun hw => ?_)
            · obtain rfl := of_decide_eq_true hw
              match ns, hv', hp, go1 with
              | [], hv', hp, go1 => exact absurd hv' (by simp [validB, isStB])
              | u :: ns, hv', hp, go1 =>
                have ub : 0 ≤ u ∧ u < (bs.length : Int) := by
                  have := hv'
                  simp only [validB, Bool.and_eq_true, List.all_cons, decide_eq_true_iff] at this
                  exact this.2.1.1
                obtain ⟨u, rfl⟩ := Int.eq_ofNat_of_zero_le ub.1
                have p1 : ∀ {σ : L2.St} {t0 : TE} {H' : Hp}, Lx none H H' → Ev K none t0 σ H' (.ref p) → Ev K none (tOp (rIxT K) t0 (tC (.int 1))) σ H' (.int (u : Int)) := fun e h => ev_op h ev_c (rv_ixT (UA.of (e.1 _ _ sx_none hp) sx_none) (at_of (j := 1) rfl rfl))
                refine s_asg (p1 e4 (st e4 (ev_var rfl) (ev_var rfl))) ?_
                dsimp only [List.set]
                refine s_app1 (v := .int (u : Int)) hq4 sx_none (ev_var rfl) (ev_var rfl) (by rw [List.length_map, sizeLine_eq]; omega) fun H6 e6 => ?_
                have lo : lastOf last (some ("bear", (u : Int) :: ns)) = u := by simp [lastOf]
                have po : parOf m par' (some ("bear", (u : Int) :: ns)) = setN par' u m := by simp [parOf]
                rw [lo, po] at go1
                exact ⟨⟨_, u, rfl, setN par' u m, borne ++ [(u : Int)], by rw [e6.1 _ _ sx_none upd_same]; simp, by simp; omega, borne_set bo4, go1⟩, (e4.put sx_none (fun u z => nomatch (fq.symm.trans z))).trans e6⟩
            · have hw' : ¬ w0 = "bear" := of_decide_eq_false hw
              have lo : lastOf last (some (w0, ns)) = last := by cases ns <;> simp [lastOf, hw']
              have po : parOf m par' (some (w0, ns)) = par' := by cases ns <;> simp [parOf, hw']
              rw [lo, po] at go1
              exact s_nx fun H6 e6 => ⟨⟨_, last, rfl, par', borne, e6.1 _ _ sx_none hq4, by omega, bo4, go1⟩, e4.trans e6⟩
      · rintro σ' H4 ⟨⟨v6, last, rfl, par', borne, hq4, lb4, bo4, go1⟩, e4⟩
        rw [Int.toNat_natCast, List.drop_length] at go1
        have ga : goA bs.length m (ss :: bs.drop (m + 1)) par = goA bs.length (m + 1) (bs.drop (m + 1)) par' := by
          conv => lhs; unfold goA
          rw [← go1]
          rfl
        rw [Int.toNat_natCast] at lb4
        exact ⟨⟨_, _, _, _, rfl⟩, e4, par', borne, hq4, by omega, bo4, by rw [← ga, go0]⟩
    · rintro σ' H2 ⟨⟨v3, v4, v5, v6, rfl⟩, e2, par, borne, hq2, lb, bo, go0⟩
      rw [Int.toNat_natCast, List.drop_length] at go0
      have g0 : goA bs.length 0 bs (fun _ => none) = .ok par := by rw [← go0]; rfl
      rw [g0] at hf
      have hf' : faultP bs = (lack par 1 (bs.length - 1)).map fun s => (s, none) := hf
      refine s_forQn (m := 1) (n := (bs.length : Int)) (ea_cons ev_c (ea_cons (ev_var rfl) ea_nil)) ⟨by omega, by omega, by omega, by omega⟩ (fun i σ' H' => (∃ v3 v4 v5 v6, σ' = [some (.ref a), some (.int (bs.length : Int)), some (.ref q), v3, v4, v5, v6]) ∧ Lx none H2 H' ∧ lack par 1 (bs.length - 1) = lack par (1 + i) (bs.length - 1 - i)) wf0 (fun H3 e3 => ⟨⟨_, _, _, _, rfl⟩, e3, rfl⟩) ?_ ?_
      · rintro i σ' H3 hi ⟨⟨v3, v4, v5, v6, rfl⟩, e3, hl⟩
        dsimp only [List.set]
        have en : bs.length - 1 - i = (bs.length - 1 - (i + 1)) + 1 := by omega
        rw [en] at hl
        have hu : lack par (1 + i) (bs.length - 1 - (i + 1) + 1) = if (par (1 + i)).isNone then some (1 + i) else lack par (1 + i + 1) (bs.length - 1 - (i + 1)) := rfl
        rw [hu] at hl
        have bq : (!borne.contains ((1 : Int) + (i : Int))) = (par (1 + i)).isNone := by
          have q := bo (1 + i)
          rw [show ((1 + i : Nat) : Int) = (1 : Int) + (i : Int) by omega] at q
          have n0 : ¬ 1 + i = 0 := by omega
          rw [Bool.eq_iff_iff, Bool.not_eq_true', ← Bool.not_eq_true, List.contains_iff_mem, q]
          cases par (1 + i) <;> simp [n0]
        refine s_if1 (b := (par (1 + i)).isNone) (et_is (et_test (ev_op (ev_var rfl) (ev_var rfl) (rv_inL (neg := true) (LA.of (e3.1 _ _ sx_none hq2) sx_none) rfl flat_int))) (by rw [if_pos rfl, inV_int, bq])) (fun hn => ?_) (fun hn => ?_)
        · rw [hn, if_pos rfl] at hl
          exact s_retX (tup (s := 1 + i) (i := none) (e2.trans e3) (by rw [hf', hl]; rfl) (ea_cons ev_c (ea_cons (ev_is (ev_var rfl) (by congr 1)) (ea_cons ev_c ea_nil)))) fun v H6 e6 z => k v H6 ((e2.trans e3).trans e6) z
        · rw [hn, if_neg Bool.false_ne_true] at hl
          exact s_nx fun H4 e4 => ⟨⟨_, _, _, _, rfl⟩, e3.trans e4, by rw [hl]; congr 1⟩
      · rintro σ' H3 ⟨⟨v3, v4, v5, v6, rfl⟩, e3, hl⟩
        have z : bs.length - 1 - ((bs.length : Int) - 1).toNat = 0 := by omega
        rw [z] at hl
        exact s_ret ev_c fun H4 e4 => k _ _ ((e2.trans e3).trans e4) (by rw [hf', hl]; rfl)
/-! _law_bodies_stand -/
def a_bstand (K : PySem.W.Frag) : List V → Hp → Dst → (V → Hp → Prop) → Prop := fun vs H S PP => S = none ∧ ∃ (x q a : Addr) (as as' : List Addr) (bs : List (List Stm)), vs = [.ref x, .ref a] ∧ ProgM K H x q as bs ∧ BodsM none H a as' bs ∧ bs.length ≤ 900 ∧ (∀ ss ∈ bs, ss.length ≤ 900) ∧ PP = fun v _ => v = .bl true
theorem ok__law_bodies_stand (T : Txt K mg w) : Ok P w K mg base CX0 7 (He.fAd K ("_law_bodies_stand", none)) ["program", "bodies"] (sp_x (a_bstand K)) := by
  refine okD (F__law_bodies_stand T) sc__law_bodies_stand (fun _ _ _ _ _ _ us hl => match us, hl with | [_, _], _ => rfl) (fun vs H Q E h => ?_) (fun cdv A outer s H vs Q E hr h => ?_)
  · obtain ⟨S, PP, ⟨rfl, x, q, a, as, as', bs, rfl, _⟩, _⟩ := h; rfl
  · obtain ⟨S, PP, ⟨rfl, x, q, a, as, as', bs, rfl, pm, bm, l9, ll, rfl⟩, _, k⟩ := h
    refine ⟨_, (pss_cons (ps_if (pt_not (pt_val (pe_callO (ok__law_same T) (hr.mono (by first | decide | omega)) rfl (g__law_same T) pass0 (pa_cons (pe_callB (call_lenO K rfl (m_ProgramD__lenD_ T) (ok_ProgramD__lenD_ T) (hr.mono (by first | decide | omega)) pass0) (by rfl) (n_len T) (by decide +kernel) (pa_cons (pv 0) pa_nil)) (pa_cons (pe_callB (lenK K rfl) (by rfl) (n_len T) (by decide +kernel) (pa_cons (pv 1) pa_nil)) pa_nil)))))
      (pss_one (ps_ret pe_bl))
      pss_nil)
      (pss_cons (ps_for PassesOwn.never rfl (pi_range1 (by rfl) (n_range T) (pa_cons (pe_callB (lenK K rfl) (by rfl) (n_len T) (by decide +kernel) (pa_cons (pv 1) pa_nil)) pa_nil)) (pg_name (i := 2) sc__law_bodies_stand.nd rfl (Or.inl rfl))
      (pss_one (ps_if (pt_not (pt_val (pe_callO (ok__law_same T) (hr.mono (by first | decide | omega)) rfl (g__law_same T) pass0 (pa_cons (pe_methO (pv 0) (c_Program T) (m_Program_body T) (ok_Program_body T) (hr.mono (by first | decide | omega)) pass0 (pa_cons (pv 2) pa_nil)) (pa_cons (pe_ix (ixL K rfl) (pv 1) (pv 2) (fun _ _ => rfl)) pa_nil)))))
      (pss_one (ps_ret pe_bl))
      pss_nil)))
      (pss_one (ps_ret pe_bl)))), ?_⟩
    refine go (K := K) (σ' := [some (.ref x), some (.ref a), none]) rfl ?_
    have la : ∀ {σ : L2.St} {t0 : TE} {H' : Hp}, Lx none H H' → Ev K none t0 σ H' (.ref a) → Ev K none (tCB (rLn K) (tCons t0 tNil)) σ H' (.int (bs.length : Int)) := fun e h => ev_is (ev_cb (ea_cons h ea_nil) (rc_len (LA.of (e.1 _ _ sx_none bm.at_) sx_none))) (by rw [List.length_map, bm.len])
    obtain ⟨pp, par, ia, _⟩ := id pm
    refine s_if (b := false) (et_not (b := true) (et_B (ev_same (d := PyData.int (bs.length : Int)) (n := 5) (E := E0) ((ex_cb (P := fun v _ => v = .int (bs.length : Int)) (ea_cons (ev_var rfl) ea_nil) (rc_lenO ia (spx_0 fun G f => ⟨_, ⟨rfl, x, q, as, bs, rfl, pm.mono f, rfl⟩, fun v G2 f2 z => ⟨bs.length, z, by omega, z⟩⟩))).ev fun _ _ _ z => z) (la Lx.rfl0 (ev_var rfl)) (Rp.int _) (Rp.int _) (by simp [PyData.depth])))) (fun z => nomatch z) (fun _ => s_next ?_)
    refine s_forRn (n := (bs.length : Int)) (ea_cons (la Lx.rfl0 (ev_var rfl)) ea_nil) ⟨by omega, by omega⟩ (fun m σ' H' => (∃ v2, σ' = [some (.ref x), some (.ref a), v2]) ∧ Lx none H H') wf0 (fun H2 e2 => ⟨⟨_, rfl⟩, e2⟩) ?_ ?_
    · rintro m σ' H2 hm ⟨⟨v2, rfl⟩, e2⟩
      dsimp only [List.set]
      have lm : m < bs.length := by omega
      obtain ⟨b, ss, h1, h2, bo⟩ := bm.body lm
      have ls := ll ss (List.mem_of_getElem? h2)
      refine s_if1X (PB := fun b _ => b = false) (etx_not (etx_B (ex_callX (PA := fun vs G => ∃ r, vs = [.ref r, .ref b] ∧ BodyA none G r ss ∧ BodyA none G b ss) (eax_cons (ex_meth (P := fun v G => ∃ r, v = .ref r ∧ BodyA none G r ss) (ev_var rfl) (ia.mono e2) rfl (ea_cons (ev_var rfl) ea_nil) (spx_0 fun G f => ⟨_, ⟨rfl, x, q, as, bs, m, ss, rfl, (pm.mono e2).mono f, h2, rfl⟩, fun v G2 f2 ⟨r, z1, z2, z3⟩ => ⟨r, z1, z3⟩⟩)) ?_) ?_))) (fun H3 e3 z => nomatch z) (fun H3 e3 _ => s_nx fun H4 e4 => ⟨⟨_, rfl⟩, (e2.trans e3).trans e4⟩)
      · rintro _ G1 f1 ⟨r, rfl, br⟩
        refine (EvA.toX (ea_cons (x := .ref b) (ev_op (ev_var rfl) (ev_var rfl) (rv_ixL (LA.of ((e2.trans f1).1 _ _ sx_none bm.at_) sx_none) (at_of (j := m) rfl (by rw [List.getElem?_map, h1]; rfl)))) ea_nil)).imp fun w G2 f2 z => ⟨r, by rw [z], br.mono f2, bo.mono ((e2.trans f1).trans f2)⟩
      · rintro vs G1 f1 ⟨r, rfl, br, bb⟩
        exact fun G2 f2 Q2 q2 => spx_same (K := K) (n := 5) (d := .list (ss.map stD)) (br.rp (by omega)) (bb.rp (by omega)) (by have := depth_body (ss := ss); omega) G2 f2 Q2 fun z G3 f3 hz => q2 z G3 f3 ⟨true, hz, rfl⟩
    · rintro σ' H2 ⟨⟨v2, rfl⟩, e2⟩
      exact s_ret ev_c fun H3 e3 => k _ _ (e2.trans e3) rfl
/-! _law_drawn_bodies -/
def a_drawnb : List V → Hp → Dst → (V → Hp → Prop) → Prop := fun vs H S PP => ∃ (st l : Addr), S = some (st, l) ∧ vs = [.ref st] ∧ PP = fun v H2 => ∃ a as bs, v = .ref a ∧ BodsM S H2 a as bs ∧ bs.length ≤ 4 ∧ ∀ ss ∈ bs, ss.length ≤ 20
theorem ok__law_drawn_bodies (T : Txt K mg w) : Ok P w K mg base CX0 2 (He.fAd K ("_law_drawn_bodies", none)) ["state"] (sp_x a_drawnb) := by
  refine okD (F__law_drawn_bodies T) sc__law_drawn_bodies (fun _ _ _ _ _ _ us hl => match us, hl with | [_], _ => rfl) (fun vs H Q E h => ?_) (fun cdv A outer s H vs Q E hr h => ?_)
  · obtain ⟨S, PP, ⟨st, l, rfl, rfl, _⟩, _⟩ := h; rfl
  · obtain ⟨_, PP, ⟨st, l, rfl, rfl, rfl⟩, lx0, k⟩ := h
    refine ⟨_, (pss_cons (ps_set (i := 1) sc__law_drawn_bodies.nd rfl (Or.inl rfl) (pe_op op_sub pe_int (pe_callO (ok__law_draw T) (hr.mono (by first | decide | omega)) rfl (g__law_draw T) pass0 (pa_cons (pv 0) (pa_cons pe_int pa_nil)))))
      (pss_cons (ps_setLc (i := 2) (own := [("k", 3)]) (by rfl) sc__law_drawn_bodies.nd rfl rfl (sw_true rfl rfl rfl (by decide +kernel)) (pi_range1 (by rfl) (n_range T) (pa_cons (pv 1) pa_nil)) (blkOk_by (own := [("k", 3)]) (N := ["state", "size", "bodies", "k", "slot", "body", "target", "other", "wait"]) (sc := defScope s__law_drawn_bodies) (by decide +kernel)) (fun _ _ _ _ _ => by exact (pg_name (i := 3) sc__law_drawn_bodies.nd rfl (Or.inl rfl))) (fun _ _ _ _ _ => by exact pts_nil) (fun _ _ _ _ _ => by exact (pe_lst pa_nil)))
      (pss_cons (ps_for PassesOwn.never rfl (pi_range2 (by rfl) (n_range T) (pa_cons pe_int (pa_cons (pv 1) pa_nil))) (pg_name (i := 4) sc__law_drawn_bodies.nd rfl (Or.inl rfl))
      (pss_cons (ps_set (i := 5) sc__law_drawn_bodies.nd rfl (Or.inl rfl) (pe_ix (ixL K rfl) (pv 2) (pe_callO (ok__law_draw T) (hr.mono (by first | decide | omega)) rfl (g__law_draw T) pass0 (pa_cons (pv 0) (pa_cons (pv 4) pa_nil))) (fun _ _ => rfl)))
      (pss_one (ps_expr (bmK K rfl PySem.F.plainAttrs_list PySem.F.slot_list_append PySem.F.type_list_append mt_append (pv 5) (pa_cons (pe_tup (pa_cons pe_str (pa_cons (pv 4) pa_nil))) pa_nil))))))
      (pss_cons (ps_if (pt_cmpR op_eq (pv 1) pe_int (nomark _))
      (pss_one (ps_ret (pv 2)))
      pss_nil)
      (pss_cons (ps_for PassesOwn.never rfl (pi_range1 (by rfl) (n_range T) (pa_cons (pe_callO (ok__law_draw T) (hr.mono (by first | decide | omega)) rfl (g__law_draw T) pass0 (pa_cons (pv 0) (pa_cons pe_int pa_nil))) pa_nil)) (pg_name (i := 3) sc__law_drawn_bodies.nd rfl (Or.inl rfl))
      (pss_cons (ps_set (i := 5) sc__law_drawn_bodies.nd rfl (Or.inl rfl) (pe_ix (ixL K rfl) (pv 2) (pe_callO (ok__law_draw T) (hr.mono (by first | decide | omega)) rfl (g__law_draw T) pass0 (pa_cons (pv 0) (pa_cons (pv 1) pa_nil))) (fun _ _ => rfl)))
      (pss_cons (ps_set (i := 6) sc__law_drawn_bodies.nd rfl (Or.inl rfl) (pe_callO (ok__law_draw T) (hr.mono (by first | decide | omega)) rfl (g__law_draw T) pass0 (pa_cons (pv 0) (pa_cons (pv 1) pa_nil))))
      (pss_cons (ps_set (i := 7) sc__law_drawn_bodies.nd rfl (Or.inl rfl) (pe_callO (ok__law_draw T) (hr.mono (by first | decide | omega)) rfl (g__law_draw T) pass0 (pa_cons (pv 0) (pa_cons (pv 1) pa_nil))))
      (pss_cons (ps_set (i := 8) sc__law_drawn_bodies.nd rfl (Or.inl rfl) (pe_ix (ixL K rfl) (pe_lst (pa_cons (pe_tup (pa_cons pe_str (pa_cons (pv 6) pa_nil))) (pa_cons (pe_tup (pa_cons pe_str (pa_cons (pv 7) (pa_cons (pv 6) pa_nil)))) (pa_cons (pe_tup (pa_cons pe_str (pa_cons (pv 6) (pa_cons (pv 7) pa_nil)))) (pa_cons (pe_tup (pa_cons pe_str (pa_cons (pv 7) pa_nil))) pa_nil))))) (pe_callO (ok__law_draw T) (hr.mono (by first | decide | omega)) rfl (g__law_draw T) pass0 (pa_cons (pv 0) (pa_cons pe_int pa_nil))) (fun _ _ => rfl)))
      (pss_one (ps_expr (bmK K rfl PySem.F.plainAttrs_list PySem.F.slot_list_insert PySem.F.type_list_insert mt_insert (pv 5) (pa_cons (pe_callO (ok__law_draw T) (hr.mono (by first | decide | omega)) rfl (g__law_draw T) pass0 (pa_cons (pv 0) (pa_cons (pe_op op_add (pe_callB (lenK K rfl) (by rfl) (n_len T) (by decide +kernel) (pa_cons (pv 5) pa_nil)) pe_int) pa_nil))) (pa_cons (pv 8) pa_nil))))))))))
      (pss_one (ps_ret (pv 2)))))))), ?_⟩
    refine goS (K := K) (σ' := [some (.ref st), none, none, none, none, none, none, none, none]) rfl (lx0.2 _ rfl) ?_
    refine s_asgX (P := fun v _ => ∃ n : Nat, v = .int (n : Int) ∧ n ≤ 4) (ex_op2 ev_c (ex_draw (ev_var rfl) ev_c (by omega) (by omega)) ?_) ?_
    · rintro _ G1 f1 ⟨n, rfl, n0, n1⟩
      exact (ev_op ev_c ev_c rv_I0).toX.imp fun w _ _ z => ⟨(4 - n).toNat, by rw [z]; congr 1; omega, by omega⟩
    rintro _ H1 e1 ⟨n, rfl, n4⟩
    dsimp only [List.set]
    have d1 : Drw H1 st l := e1.2 _ rfl
    refine s_asgX (P := fun v H2 => ∃ a as, v = .ref a ∧ H1 a = none ∧ BodsM (some (st, l)) H2 a as (List.replicate n []) ∧ ∀ b ∈ as, H1 b = none) ((ex_lcR (n := (n : Int)) (ea_cons (ev_var rfl) ea_nil) ⟨by omega, by omega⟩ (fun _ => rfl) (fun D i acc H' => CopP (some (st, l)) H1 (List.replicate n []) D i acc H') (fun D H' _ _ _ => ⟨[], rfl, by simp, by simp, rfl, fun _ z => by simp at z, fun m b ss z => by simp at z⟩) ?_).imp ?_) ?_
    · intro D i acc G1 fD gD hi f1 p G2 f2 Q q
      refine q true G2 f2.refl ⟨fun _ G3 f3 Q3 q3 => ?_, fun z => nomatch z⟩
      have nD : ¬ Sx (some (st, l)) D := (lx_start d1).ns fD
      refine ex_lst (K := K) (vs := []) ea_nil (len_le (by simp)) G3 ((f1.trans f2).trans f3).refl _ fun y G4 f4 r => q3 _ _ f4 ?_
      obtain ⟨r, rfl, fr, nr, hr⟩ := r
      exact copP_step (ss := []) (ys := []) nD f1 gD p (by rw [List.getElem?_replicate, if_pos (by omega)]) (f2.trans f3) f4 fr nr hr ⟨rfl, fun m z q a _ => by simp at a⟩
    · rintro v G f ⟨q, acc, hv, fq, nq, hq, _, pe⟩
      rw [Int.toNat_natCast] at pe
      obtain ⟨as, z1, z2⟩ := copP_end (bs := List.replicate n []) nq hq (by rw [List.length_replicate]; exact pe)
      exact ⟨q, as, hv, fq, z1, z2⟩
    rintro _ H2 e2 ⟨a, as, rfl, fa, bm, fas⟩
    dsimp only [List.set]
    let Iv : Nat → Hp → Prop := fun j H' => Lx (some (st, l)) H H' ∧ ∃ bs, BodsM (some (st, l)) H' a as bs ∧ bs.length = n ∧ ∀ ss ∈ bs, ss.length ≤ j
    have i0 : Iv 0 H2 := ⟨e1.trans e2, _, bm, by simp, fun ss hs => by rw [List.eq_of_mem_replicate hs]; simp⟩
    have fr : ∀ b ∈ as, ∀ u, H b = some u → False := fun b hb u z => by
      by_cases nb : Sx (some (st, l)) b
      · obtain ⟨i, li, ei⟩ := List.mem_iff_getElem.mp hb
        have := bm.len
        obtain ⟨b', ss, h1, h2, h3, _⟩ := bm.body (i := i) (by omega)
        rw [List.getElem?_eq_getElem li, ei] at h1
        cases h1
        exact h3 nb
      · have := e1.1 _ _ nb z
        rw [fas b hb] at this
        cases this
    have mono : ∀ {j : Nat} {G G2 : Hp}, Iv j G → Lx (some (st, l)) G G2 → Iv j G2 := fun h e => ⟨h.1.trans e, let ⟨bs, b1, b2, b3⟩ := h.2; ⟨bs, b1.mono e, b2, b3⟩⟩
    have ins : ∀ {j i m : Nat} {G G2 : Hp} {b : Addr} {ys : List V} {v : V} {s : Stm}, Iv j G → as[i]? = some b → G b = some (.lst ys) → m ≤ ys.length → StmA (some (st, l)) G v s → Iv (j + 1) (upd G b (.lst (ys.take m ++ [v] ++ ys.drop m))) := fun {j i m G G2 b ys v s} h hi hb lm sv => by
      obtain ⟨e, bs, b1, b2, b3⟩ := h
      have il : i < bs.length := by rw [← b1.len]; exact (List.getElem?_eq_some_iff.mp hi).1
      obtain ⟨b', ss, h1, h2, nb, ys', hy, rel⟩ := b1.body il
      rw [hi] at h1
      cases h1
      rw [hb] at hy
      cases hy
      refine ⟨e.put nb (fr b (List.mem_of_getElem? hi)), bs.set i (ss.take m ++ [s] ++ ss.drop m), b1.set hi ⟨ys, hb⟩ (rel.ins m sv (by rw [← rel.1]; exact lm)), by simp [b2], fun s' hs' => ?_⟩
      rcases List.mem_or_eq_of_mem_set hs' with z | z
      · have := b3 s' z; omega
      · have := b3 ss (List.mem_of_getElem? h2)
        subst z
        simp
        omega
    refine s_forQn (m := 1) (n := (n : Int)) (ea_cons ev_c (ea_cons (ev_var rfl) ea_nil)) ⟨by omega, by omega, by omega, by omega⟩ (fun i σ' H' => (∃ v3 v4 v5 v6 v7 v8, σ' = [some (.ref st), some (.int (n : Int)), some (.ref a), v3, v4, v5, v6, v7, v8]) ∧ Iv i H') (fun _ _ _ z => z.2.1.refl) (fun H3 e3 => ⟨⟨_, _, _, _, _, _, rfl⟩, mono i0 e3⟩) ?_ ?_
    · rintro i σ' H3 hi ⟨⟨v3, v4, v5, v6, v7, v8, rfl⟩, iv⟩
      dsimp only [List.set]
      refine s_asgX (P := fun v H4 => ∃ (j : Nat) (b : Addr), v = .ref b ∧ as[j]? = some b) (ex_op2 (ev_var rfl) (ex_draw (ev_var rfl) (ev_var rfl) (by omega) (by omega)) ?_) ?_
      · rintro _ G1 f1 ⟨j, rfl, j0, j1⟩
        obtain ⟨_, bs, b1, b2, _⟩ := mono iv f1
        have la := b1.len
        have jl : j.toNat < as.length := by omega
        exact (ev_op ev_c ev_c (rv_ixL (LA.of b1.at_ b1.na) (at_of (j := j.toNat) (by omega) (by rw [List.getElem?_map, List.getElem?_eq_getElem jl]; rfl)))).toX.imp fun w _ _ z => ⟨j.toNat, _, z, List.getElem?_eq_getElem jl⟩
      rintro _ H4 e4 ⟨j, b, rfl, hj⟩
      dsimp only [List.set]
      have iv4 := mono iv e4
      obtain ⟨_, bs, b1, b2, b3⟩ := id iv4
      have jl : j < bs.length := by rw [← b1.len]; exact (List.getElem?_eq_some_iff.mp hj).1
      obtain ⟨b', ss, h1, h2, nb, ys, hy, rel⟩ := b1.body jl
      rw [hj] at h1
      cases h1
      have ls := b3 ss (List.mem_of_getElem? h2)
      have ly := rel.1
      refine s_appX1 hy nb (ev_var rfl) (ex_stm (some ("bear", [(1 : Int) + (i : Int)])) (ea_cons ev_c (ea_cons (ev_var rfl) ea_nil)) (by simp [stV])) (by rw [sizeLine_eq]; omega) ?_
      rintro v H5 e5 sv H6 e6
      refine ⟨⟨_, _, _, _, _, _, rfl⟩, mono ?_ e6⟩
      have := ins (G2 := H5) (m := ys.length) (mono iv4 e5) hj (e5.1 _ _ nb hy) (Nat.le_refl _) sv
      rw [List.take_length, List.drop_length, List.append_nil] at this
      exact this
    · rintro σ' H3 ⟨⟨v3, v4, v5, v6, v7, v8, rfl⟩, iv⟩
      have iv3 : Iv 3 H3 := ⟨iv.1, let ⟨bs, b1, b2, b3⟩ := iv.2; ⟨bs, b1, b2, fun ss hs => by have := b3 ss hs; omega⟩⟩
      clear iv
      refine s_if (b := decide (n = 0)) (et_is (et_test (ev_op (ev_var rfl) ev_c (rv_eq rfl))) (by simp)) (fun hz => ?_) (fun hz => s_next ?_)
      · exact s_ret (ev_var rfl) fun H4 e4 => by
          obtain ⟨f, bs, b1, b2, b3⟩ := mono iv3 e4
          exact k _ _ f ⟨a, as, bs, rfl, b1, by omega, fun ss hs => by have := b3 ss hs; omega⟩
      have nz : ¬ n = 0 := of_decide_eq_false hz
      refine s_forRX (PA := fun vs _ => ∃ m : Nat, vs = [.int (m : Int)] ∧ m ≤ 4) (eax_cons (ex_draw (ev_var rfl) ev_c (by omega) (by omega)) ?_) ?_
      · rintro _ G1 f1 ⟨m, rfl, m0, m1⟩
        exact ea_nil.toX.imp fun w _ _ z => ⟨m.toNat, by rw [z]; congr 2; omega, by omega⟩
      rintro vs H4 e4 ⟨m, rfl, m4⟩
      refine ⟨_, rfl, ?_⟩
      refine s_forRn (n := (m : Int)) (ea_cons ev_c ea_nil) ⟨by omega, by omega⟩ (fun i σ' H' => (∃ v3 v4 v5 v6 v7 v8, σ' = [some (.ref st), some (.int (n : Int)), some (.ref a), v3, v4, v5, v6, v7, v8]) ∧ Iv (3 + i) H') (fun _ _ _ z => z.2.1.refl) (fun H5 e5 => ⟨⟨_, _, _, _, _, _, rfl⟩, mono iv3 (e4.trans e5)⟩) ?_ ?_
      · clear iv3
        rintro i σ' H5 hi ⟨⟨v3, v4, v5, v6, v7, v8, rfl⟩, iv⟩
        dsimp only [List.set]
        refine s_asgX (P := fun v H4 => ∃ (j : Nat) (b : Addr), v = .ref b ∧ as[j]? = some b) (ex_op2 (ev_var rfl) (ex_draw (ev_var rfl) (ev_var rfl) (by omega) (by omega)) ?_) ?_
        · rintro _ G1 f1 ⟨j, rfl, j0, j1⟩
          obtain ⟨_, bs, b1, b2, _⟩ := mono iv f1
          have la := b1.len
          have jl : j.toNat < as.length := by omega
          exact (ev_op ev_c ev_c (rv_ixL (LA.of b1.at_ b1.na) (at_of (j := j.toNat) (by omega) (by rw [List.getElem?_map, List.getElem?_eq_getElem jl]; rfl)))).toX.imp fun w _ _ z => ⟨j.toNat, _, z, List.getElem?_eq_getElem jl⟩
        rintro _ H6 e6 ⟨j, b, rfl, hj⟩
        dsimp only [List.set]
        refine s_asgX (ex_draw (ev_var rfl) (ev_var rfl) (by omega) (by omega)) ?_
        rintro _ H7 e7 ⟨t, rfl, _, _⟩
        dsimp only [List.set]
        refine s_asgX (ex_draw (ev_var rfl) (ev_var rfl) (by omega) (by omega)) ?_
        rintro _ H8 e8 ⟨o, rfl, _, _⟩
        dsimp only [List.set]
        refine s_asgX (P := fun v H2 => ∃ s, StmA (some (st, l)) H2 v s) (ex_op1 (ex_lstS (n := 4) (eax_stm (some ("wait", [t])) (ea_cons ev_c (ea_cons (ev_var rfl) ea_nil)) (by simp [stV]) (eax_stm (some ("any", [o, t])) (ea_cons ev_c (ea_cons (ev_var rfl) (ea_cons (ev_var rfl) ea_nil))) (by simp [stV]) (eax_stm (some ("wait", [t, o])) (ea_cons ev_c (ea_cons (ev_var rfl) (ea_cons (ev_var rfl) ea_nil))) (by simp [stV]) (eax_stm (some ("any", [o])) (ea_cons ev_c (ea_cons (ev_var rfl) ea_nil)) (by simp [stV]) eax_nilS)))) (by decide)) ?_) ?_
        · rintro _ G1 f1 ⟨p, ws, rfl, np, hp, al⟩
          refine ex_op2 ev_c (ex_draw (ev_var rfl) ev_c (by omega) (by omega)) ?_
          rintro _ G2 f2 ⟨i, rfl, i0, i1⟩
          have il : i.toNat < ws.length := by rw [al.1]; omega
          refine (ev_op ev_c ev_c (rv_ixL (LA.of (f2.1 _ _ np hp) np) (at_of (j := i.toNat) (by omega) (List.getElem?_eq_getElem il)))).toX.imp fun w G f z => ?_
          rw [z]
          exact (al.mono (f2.trans f)).2 _ (List.getElem_mem il)
        rintro w H9 e9 ⟨s, sw⟩
        dsimp only [List.set]
        have iv9 := mono iv (((e6.trans e7).trans e8).trans e9)
        obtain ⟨_, bs, b1, b2, b3⟩ := id iv9
        have jl : j < bs.length := by rw [← b1.len]; exact (List.getElem?_eq_some_iff.mp hj).1
        obtain ⟨b', ss, h1, h2, nb, ys, hy, rel⟩ := b1.body jl
        rw [hj] at h1
        cases h1
        have ls := b3 ss (List.mem_of_getElem? h2)
        have ly := rel.1
        refine s_insX1 hy nb (ev_var rfl) (ex_draw (ev_var rfl) (ev_op (ev_cb (ea_cons (ev_var rfl) ea_nil) (rc_len (LA.of hy nb))) ev_c rv_I0) (by omega) (by omega)) (by rw [sizeLine_eq]; omega) ?_
        rintro _ H10 e10 ⟨c, rfl, c0, c1⟩
        refine ⟨c.toNat, by congr 1; omega, by omega, (ev_var rfl).toX.imp fun v H11 e11 hv => ?_⟩
        subst hv
        exact ⟨⟨_, _, _, _, _, _, rfl⟩, ins (G2 := H11) (mono iv9 (e10.trans e11)) hj ((e10.trans e11).1 _ _ nb hy) (by omega) (sw.mono (e10.trans e11))⟩
      · rintro σ' H5 ⟨⟨v3, v4, v5, v6, v7, v8, rfl⟩, iv⟩
        exact s_ret (ev_var rfl) fun H6 e6 => by
          obtain ⟨f, bs, b1, b2, b3⟩ := mono iv e6
          exact k _ _ f ⟨a, as, bs, rfl, b1, by omega, fun ss hs => by have := b3 ss hs; omega⟩
/-! _law_odd_statement -/
def a_odd : List V → Hp → Dst → (V → Hp → Prop) → Prop := fun vs H S PP => ∃ (st l : Addr) (n m : Nat), S = some (st, l) ∧ vs = [.ref st, .int (n : Int), .int (m : Int)] ∧ 1 ≤ n ∧ n ≤ 100 ∧ PP = fun v H2 => ∃ s, StmA S H2 v s
theorem ok__law_odd_statement (T : Txt K mg w) : Ok P w K mg base CX0 2 (He.fAd K ("_law_odd_statement", none)) ["state", "size", "slot"] (sp_x a_odd) := by
  refine okD (F__law_odd_statement T) sc__law_odd_statement (fun _ _ _ _ _ _ us hl => match us, hl with | [_, _, _], _ => rfl) (fun vs H Q E h => ?_) (fun cdv A outer s H vs Q E hr h => ?_)
  · obtain ⟨S, PP, ⟨st, l, n, m, rfl, rfl, _⟩, _⟩ := h; rfl
  · obtain ⟨_, PP, ⟨st, l, n, m, rfl, rfl, n1, n2, rfl⟩, lx0, k⟩ := h
    refine ⟨_, (pss_cons (ps_set (i := 3) sc__law_odd_statement.nd rfl (Or.inl rfl) (pe_callO (ok__law_draw T) (hr.mono (by first | decide | omega)) rfl (g__law_draw T) pass0 (pa_cons (pv 0) (pa_cons (pv 1) pa_nil))))
      (pss_cons (ps_set (i := 4) sc__law_odd_statement.nd rfl (Or.inl rfl) (pe_callO (ok__law_draw T) (hr.mono (by first | decide | omega)) rfl (g__law_draw T) pass0 (pa_cons (pv 0) (pa_cons (pv 1) pa_nil))))
      (pss_cons (ps_set (i := 5) sc__law_odd_statement.nd rfl (Or.inl rfl) (pe_lst (pa_cons (pe_tup (pa_cons pe_str (pa_cons (pv 3) pa_nil))) (pa_cons (pe_tup pa_nil) (pa_cons (pe_tup (pa_cons pe_str pa_nil)) (pa_cons (pe_tup (pa_cons pe_str pa_nil)) (pa_cons (pe_tup (pa_cons pe_str pa_nil)) (pa_cons (pe_tup (pa_cons pe_str (pa_cons (pv 3) pa_nil))) (pa_cons (pe_tup (pa_cons pe_str (pa_cons (pv 3) (pa_cons (pv 4) pa_nil)))) (pa_cons (pe_tup (pa_cons pe_str (pa_cons (pv 3) pa_nil))) pa_nil))))))))))
      (pss_cons (ps_set (i := 5) sc__law_odd_statement.nd rfl (Or.inl rfl) (pe_op op_cat (pv 5) (pe_lst (pa_cons (pe_tup (pa_cons pe_str (pa_cons (pv 1) pa_nil))) (pa_cons (pe_tup (pa_cons pe_str (pa_cons (pv 3) (pa_cons (pe_un un_neg pe_int) pa_nil)))) (pa_cons (pe_tup (pa_cons pe_str (pa_cons (pv 1) (pa_cons (pv 4) pa_nil)))) (pa_cons (pe_tup (pa_cons pe_str (pa_cons (pv 2) pa_nil))) (pa_cons (pe_tup (pa_cons pe_str (pa_cons pe_int pa_nil))) (pa_cons (pe_tup (pa_cons pe_str (pa_cons (pe_un un_neg pe_int) pa_nil))) pa_nil)))))))))
      (pss_cons (ps_set (i := 5) sc__law_odd_statement.nd rfl (Or.inl rfl) (pe_op op_cat (pv 5) (pe_lst (pa_cons (pe_tup (pa_cons pe_str (pa_cons (pv 3) (pa_cons (pv 3) pa_nil)))) (pa_cons (pe_tup (pa_cons pe_str (pa_cons (pv 4) pa_nil))) (pa_cons (pe_tup (pa_cons pe_str (pa_cons (pv 3) pa_nil))) (pa_cons (pe_tup (pa_cons pe_str (pa_cons (pv 3) pa_nil))) (pa_cons (pe_tup (pa_cons pe_str (pa_cons (pe_op op_add (pv 1) pe_int) pa_nil))) pa_nil))))))))
      (pss_one (ps_ret (pe_ix (ixL K rfl) (pv 5) (pe_callO (ok__law_draw T) (hr.mono (by first | decide | omega)) rfl (g__law_draw T) pass0 (pa_cons (pv 0) (pa_cons pe_int pa_nil))) (fun _ _ => rfl))))))))), ?_⟩
    refine goS (K := K) (σ' := [some (.ref st), some (.int (n : Int)), some (.int (m : Int)), none, none, none]) rfl (lx0.2 _ rfl) ?_
    refine s_asgX (ex_draw (ev_var rfl) (ev_var rfl) (by omega) (by omega)) ?_
    rintro _ H1 e1 ⟨t, rfl, _, _⟩
    dsimp only [List.set]
    refine s_asgX (ex_draw (ev_var rfl) (ev_var rfl) (by omega) (by omega)) ?_
    rintro _ H2 e2 ⟨o, rfl, _, _⟩
    dsimp only [List.set]
    let σ0 : L2.St := [some (.ref st), some (.int (n : Int)), some (.int (m : Int)), some (.int t), some (.int o), none]
    have W : ∀ {G : Hp} {z : Option V} {w : Str} {n : Nat} {tas : TA}, EvAX K (some (st, l)) tas [some (.ref st), some (.int (n : Int)), some (.int (m : Int)), some (.int t), some (.int o), z] G (AllS (some (st, l)) n) → True := fun _ => trivial
    refine s_asgX (P := NewS (some (st, l)) 8) (ex_lstS (eax_stm (some ("bear", [t])) (ea_cons ev_c (ea_cons (ev_var rfl) ea_nil)) (by simp [stV]) (eax_stm none ea_nil (by simp [stV]) (eax_stm (some ("bear", [])) (ea_cons ev_c ea_nil) (by simp [stV]) (eax_stm (some ("wait", [])) (ea_cons ev_c ea_nil) (by simp [stV]) (eax_stm (some ("any", [])) (ea_cons ev_c ea_nil) (by simp [stV]) (eax_stm (some ("born", [t])) (ea_cons ev_c (ea_cons (ev_var rfl) ea_nil)) (by simp [stV]) (eax_stm (some ("bear", [t, o])) (ea_cons ev_c (ea_cons (ev_var rfl) (ea_cons (ev_var rfl) ea_nil))) (by simp [stV]) (eax_stm (some ("", [t])) (ea_cons ev_c (ea_cons (ev_var rfl) ea_nil)) (by simp [stV]) eax_nilS)))))))) (by decide)) ?_
    rintro _ H3 e3 ⟨p, vs, rfl, np, hp, al⟩
    dsimp only [List.set]
    have self3 : ∀ {G : Hp} {σ : L2.St} {te : TE} {p : Addr} {vs : List V} {c : Nat}, Ev K (some (st, l)) te σ G (.ref p) → ¬ Sx (some (st, l)) p → G p = some (.lst vs) → AllS (some (st, l)) c vs G → EvX K (some (st, l)) te σ G (NewS (some (st, l)) c) := fun {G σ te p vs c} h np hp al => h.toX.imp fun v G2 f2 z => ⟨p, vs, z, np, f2.1 _ _ np hp, al.mono f2⟩
    refine s_asgX (P := NewS (some (st, l)) 14) (ex_catS (n := 8) (m := 6) (self3 (ev_var rfl) np hp al) (ex_lstS (eax_stm (some ("bear", [(n : Int)])) (ea_cons ev_c (ea_cons (ev_var rfl) ea_nil)) (by simp [stV]) (eax_stm (some ("wait", [t, -1])) (ea_cons ev_c (ea_cons (ev_var rfl) (ea_cons (ev_un ev_c rv_neg) ea_nil))) (by simp [stV]) (eax_stm (some ("any", [(n : Int), o])) (ea_cons ev_c (ea_cons (ev_var rfl) (ea_cons (ev_var rfl) ea_nil))) (by simp [stV]) (eax_stm (some ("bear", [(m : Int)])) (ea_cons ev_c (ea_cons (ev_var rfl) ea_nil)) (by simp [stV]) (eax_stm (some ("bear", [0])) (ea_cons ev_c (ea_cons ev_c ea_nil)) (by simp [stV]) (eax_stm (some ("bear", [-1])) (ea_cons ev_c (ea_cons (ev_un ev_c rv_neg) ea_nil)) (by simp [stV]) eax_nilS)))))) (by decide)) (by decide)) ?_
    rintro _ H4 e4 ⟨p, vs, rfl, np, hp, al⟩
    dsimp only [List.set]
    refine s_asgX (P := NewS (some (st, l)) 19) (ex_catS (n := 14) (m := 5) (self3 (ev_var rfl) np hp al) (ex_lstS (eax_stm (some ("wait", [t, t])) (ea_cons ev_c (ea_cons (ev_var rfl) (ea_cons (ev_var rfl) ea_nil))) (by simp [stV]) (eax_stm (some ("any", [o])) (ea_cons ev_c (ea_cons (ev_var rfl) ea_nil)) (by simp [stV]) (eax_stm (some ("Bear", [t])) (ea_cons ev_c (ea_cons (ev_var rfl) ea_nil)) (by simp [stV]) (eax_stm (some ("waits", [t])) (ea_cons ev_c (ea_cons (ev_var rfl) ea_nil)) (by simp [stV]) (eax_stm (some ("wait", [(n : Int) + 7])) (ea_cons ev_c (ea_cons (ev_op (ev_var rfl) ev_c rv_I0) ea_nil)) (by simp [stV]) eax_nilS))))) (by decide)) (by decide)) ?_
    rintro _ H5 e5 ⟨p, vs, rfl, np, hp, al⟩
    dsimp only [List.set]
    refine s_retX (P := fun v H2 => ∃ s, StmA (some (st, l)) H2 v s) (ex_op2 (ev_var rfl) (ex_draw (ev_var rfl) ev_c (by omega) (by omega)) ?_) fun v H6 e6 z => k _ _ ((((e1.trans e2).trans e3).trans e4).trans e5 |>.trans e6) z
    rintro _ G1 f1 ⟨i, rfl, i0, i1⟩
    have il : i.toNat < vs.length := by rw [al.1]; omega
    refine (ev_op ev_c ev_c (rv_ixL (LA.of (f1.1 _ _ np hp) np) (at_of (j := i.toNat) (by omega) (List.getElem?_eq_getElem il)))).toX.imp fun w G f z => ?_
    rw [z]
    exact (al.mono (f1.trans f)).2 _ (List.getElem_mem il)
/-! _law_changed -/
def sp_changed : Sp := fun vs H Q _ => ∃ (st l a : Addr) (as : List Addr) (bs : List (List Stm)), vs = [.ref st, .ref a] ∧ Drw H st l ∧ BodsM (some (st, l)) H a as bs ∧ 1 ≤ bs.length ∧ bs.length ≤ 100 ∧ (∀ ss ∈ bs, ss.length ≤ 100) ∧
  ∀ bs' H', Drw H' st l → BodsM (some (st, l)) H' a as bs' → bs'.length = bs.length → (∀ ss ∈ bs', ss.length ≤ 200) → (∀ c o, c ∉ as → ¬ Sx (some (st, l)) c → H c = some o → H' c = some o) → Q (.int (bs.length : Int)) H'
theorem ok__law_changed (T : Txt K mg w) : Ok P w K mg base CX0 3 (He.fAd K ("_law_changed", none)) ["state", "bodies"] (sp_changed) := by
  refine okD (F__law_changed T) sc__law_changed (fun _ _ _ _ _ _ us hl => match us, hl with | [_, _], _ => rfl) (fun vs H Q E h => ?_) (fun cdv A outer s H vs Q E hr h => ?_)
  · obtain ⟨st, l, a, as, bs, rfl, _⟩ := h; rfl
  · obtain ⟨st, l, a, as, bs, rfl, d0, bm, l1, l2, l3, k⟩ := h
    refine ⟨_, (pss_cons (ps_set (i := 2) sc__law_changed.nd rfl (Or.inl rfl) (pe_callB (lenK K rfl) (by rfl) (n_len T) (by decide +kernel) (pa_cons (pv 1) pa_nil)))
      (pss_cons (ps_for PassesOwn.never rfl (pi_range1 (by rfl) (n_range T) (pa_cons (pe_callO (ok__law_draw T) (hr.mono (by first | decide | omega)) rfl (g__law_draw T) pass0 (pa_cons (pv 0) (pa_cons pe_int pa_nil))) pa_nil)) (pg_name (i := 3) sc__law_changed.nd rfl (Or.inl rfl))
      (pss_cons (ps_set (i := 4) sc__law_changed.nd rfl (Or.inl rfl) (pe_callO (ok__law_draw T) (hr.mono (by first | decide | omega)) rfl (g__law_draw T) pass0 (pa_cons (pv 0) (pa_cons (pv 2) pa_nil))))
      (pss_cons (ps_set (i := 5) sc__law_changed.nd rfl (Or.inl rfl) (pe_ix (ixL K rfl) (pv 1) (pv 4) (fun _ _ => rfl)))
      (pss_cons (ps_set (i := 6) sc__law_changed.nd rfl (Or.inl rfl) (pe_callO (ok__law_draw T) (hr.mono (by first | decide | omega)) rfl (g__law_draw T) pass0 (pa_cons (pv 0) (pa_cons pe_int pa_nil))))
      (pss_cons (ps_set (i := 7) sc__law_changed.nd rfl (Or.inl rfl) (pe_callO (ok__law_draw T) (hr.mono (by first | decide | omega)) rfl (g__law_draw T) pass0 (pa_cons (pv 0) (pa_cons (pe_op op_add (pe_callB (lenK K rfl) (by rfl) (n_len T) (by decide +kernel) (pa_cons (pv 5) pa_nil)) pe_int) pa_nil))))
      (pss_one (ps_if (PW.pt (pw_or (pt_cmpR op_lt (pv 6) pe_int (nomark _)) (pw_or1 (pt_cmpR op_eq (pe_callB (lenK K rfl) (by rfl) (n_len T) (by decide +kernel) (pa_cons (pv 5) pa_nil)) pe_int (nomark _)))))
      (pss_one (ps_expr (bmK K rfl PySem.F.plainAttrs_list PySem.F.slot_list_insert PySem.F.type_list_insert mt_insert (pv 5) (pa_cons (pv 7) (pa_cons (pe_callO (ok__law_odd_statement T) (hr.mono (by first | decide | omega)) rfl (g__law_odd_statement T) pass0 (pa_cons (pv 0) (pa_cons (pv 2) (pa_cons (pv 4) pa_nil)))) pa_nil)))))
      (pss_one (ps_if (pt_cmpR op_eq (pv 6) pe_int (nomark _))
      (pss_one (ps_expr (bmK K rfl PySem.F.plainAttrs_list PySem.F.slot_list_pop PySem.F.type_list_pop mt_popAt (pv 5) (pa_cons (pe_callB (call_min2 rfl) (by rfl) (n_min T) (by decide +kernel) (pa_cons (pe_callTy callInt (by rfl) (n_int T) (by decide +kernel) (pa_cons (pv 7) pa_nil)) (pa_cons (pe_op op_sub (pe_callB (lenK K rfl) (by rfl) (n_len T) (by decide +kernel) (pa_cons (pv 5) pa_nil)) pe_int) pa_nil))) pa_nil))))
      (pss_one (ps_if (pt_cmpR op_eq (pv 6) pe_int (nomark _))
      (pss_one (ps_expr (bmK K rfl PySem.F.plainAttrs_list PySem.F.slot_list_append PySem.F.type_list_append mt_append (pv 5) (pa_cons (pe_ix (ixL K rfl) (pv 5) (pe_callB (call_min2 rfl) (by rfl) (n_min T) (by decide +kernel) (pa_cons (pe_callTy callInt (by rfl) (n_int T) (by decide +kernel) (pa_cons (pv 7) pa_nil)) (pa_cons (pe_op op_sub (pe_callB (lenK K rfl) (by rfl) (n_len T) (by decide +kernel) (pa_cons (pv 5) pa_nil)) pe_int) pa_nil))) (fun _ _ => rfl)) pa_nil))))
      (pss_one (ps_expr (bmK K rfl PySem.F.plainAttrs_list PySem.F.slot_list_append PySem.F.type_list_append mt_append (pv 5) (pa_cons (bmK K rfl PySem.F.plainAttrs_list PySem.F.slot_list_pop PySem.F.type_list_pop mt_popAt (pv 5) (pa_cons pe_int pa_nil)) pa_nil)))))))))))))))
      (pss_one (ps_ret (pe_callB (lenK K rfl) (by rfl) (n_len T) (by decide +kernel) (pa_cons (pv 1) pa_nil)))))), ?_⟩
    refine goS (K := K) (σ' := [some (.ref st), some (.ref a), none, none, none, none, none, none]) rfl d0 ?_
    have la : ∀ {σ : L2.St} {t0 : TE} {H' : Hp} {bs' : List (List Stm)}, BodsM (some (st, l)) H' a as bs' → Ev K (some (st, l)) t0 σ H' (.ref a) → Ev K (some (st, l)) (tCB (rLn K) (tCons t0 tNil)) σ H' (.int (bs.length : Int)) := fun b h => ev_is (ev_cb (ea_cons h ea_nil) (rc_len (LA.of b.at_ b.na))) (by rw [List.length_map, bm.len])
    refine s_asg (la bm (ev_var rfl)) ?_
    dsimp only [List.set]
    let Iv : Nat → Hp → Prop := fun j H' => Drw H' st l ∧ (∃ bs', BodsM (some (st, l)) H' a as bs' ∧ bs'.length = bs.length ∧ ∀ ss ∈ bs', ss.length ≤ 100 + j) ∧ ∀ c o, c ∉ as → ¬ Sx (some (st, l)) c → H c = some o → H' c = some o
    have i0 : Iv 0 H := ⟨d0, ⟨bs, bm, rfl, l3⟩, fun c o _ _ e => e⟩
    have mono : ∀ {j : Nat} {G G2 : Hp}, Iv j G → Lx (some (st, l)) G G2 → Iv j G2 := fun h e => ⟨e.2 _ rfl, let ⟨bs, b1, b2, b3⟩ := h.2.1; ⟨bs, b1.mono e, b2, b3⟩, fun c o n1 n2 z => e.1 _ _ n2 (h.2.2 c o n1 n2 z)⟩
    have put : ∀ {j i : Nat} {G : Hp} {b : Addr} {ys zs : List V} {ss' : List Stm}, Iv j G → as[i]? = some b → G b = some (.lst ys) → RelL (fun v s H => StmA (some (st, l)) H v s) zs ss' G → ss'.length ≤ 100 + (j + 1) → Iv (j + 1) (upd G b (.lst zs)) := fun {j i G b ys zs ss'} h hi hb rel ls => by
      obtain ⟨d, ⟨bs', b1, b2, b3⟩, kp⟩ := h
      have bm' := List.mem_of_getElem? hi
      have il : i < bs'.length := by rw [← b1.len]; exact (List.getElem?_eq_some_iff.mp hi).1
      obtain ⟨b', ss, h1, h2, nb, ys', hy, rel0⟩ := b1.body il
      rw [hi] at h1
      cases h1
      refine ⟨d.put (fun z => nb ⟨_, rfl, .inl z.symm⟩) (fun z => nb ⟨_, rfl, .inr z.symm⟩), ⟨bs'.set i ss', b1.set hi ⟨ys, hb⟩ rel, by rw [List.length_set]; exact b2, fun s' hs' => ?_⟩, fun c o n1 n2 z => ?_⟩
      · rcases List.mem_or_eq_of_mem_set hs' with z | z
        · have := b3 s' z; omega
        · subst z; exact ls
      · rw [upd_ne (fun w => n1 (by rw [w]; exact bm'))]
        exact kp c o n1 n2 z
    refine s_forRX (PA := fun vs _ => ∃ m : Nat, vs = [.int (m : Int)] ∧ m ≤ 3) (eax_cons (ex_draw (ev_var rfl) ev_c (by omega) (by omega)) ?_) ?_
    · rintro _ G1 f1 ⟨m, rfl, m0, m1⟩
      exact ea_nil.toX.imp fun w _ _ z => ⟨m.toNat, by rw [z]; congr 2; omega, by omega⟩
    rintro vs H1 e1 ⟨m, rfl, m3⟩
    refine ⟨_, rfl, ?_⟩
    refine s_forRn (n := (m : Int)) (ea_cons ev_c ea_nil) ⟨by omega, by omega⟩ (fun i σ' H' => (∃ v3 v4 v5 v6 v7, σ' = [some (.ref st), some (.ref a), some (.int (bs.length : Int)), v3, v4, v5, v6, v7]) ∧ Iv i H') (fun _ _ _ z => lx_start z.2.1) (fun H2 e2 => ⟨⟨_, _, _, _, _, rfl⟩, mono i0 (e1.trans e2)⟩) ?_ ?_
    · rintro i σ' H2 hi ⟨⟨v3, v4, v5, v6, v7, rfl⟩, iv⟩
      dsimp only [List.set]
      refine s_asgX (ex_draw (ev_var rfl) (ev_var rfl) (by omega) (by omega)) ?_
      rintro _ H3 e3 ⟨j, rfl, j0, j1⟩
      dsimp only [List.set]
      obtain ⟨j, rfl⟩ := Int.eq_ofNat_of_zero_le j0
      have iv3 := mono iv e3
      obtain ⟨d3, ⟨bs', b1, b2, b3⟩, kp⟩ := id iv3
      have jl : j < bs'.length := by omega
      obtain ⟨b, ss, h1, h2, nb, ys, hy, rel⟩ := b1.body jl
      have ls := b3 ss (List.mem_of_getElem? h2)
      have ly := rel.1
      refine s_asg (v := .ref b) (ev_op (ev_var rfl) (ev_var rfl) (rv_ixL (LA.of b1.at_ b1.na) (at_of (j := j) rfl (by rw [List.getElem?_map, h1]; rfl)))) ?_
      dsimp only [List.set]
      refine s_asgX (ex_draw (ev_var rfl) ev_c (by omega) (by omega)) ?_
      rintro _ H4 e4 ⟨kd, rfl, kd0, kd1⟩
      dsimp only [List.set]
      have hy4 := e4.1 _ _ nb hy
      refine s_asgX (ex_draw (ev_var rfl) (ev_op (ev_cb (ea_cons (ev_var rfl) ea_nil) (rc_len (LA.of hy4 nb))) ev_c rv_I0) (by omega) (by omega)) ?_
      rintro _ H5 e5 ⟨pl, rfl, pl0, pl1⟩
      dsimp only [List.set]
      obtain ⟨pl, rfl⟩ := Int.eq_ofNat_of_zero_le pl0
      have e35 := e4.trans e5
      have iv5 := mono iv3 e35
      have hy5 := e5.1 _ _ nb hy4
      have rel5 : RelL (fun v s H => StmA (some (st, l)) H v s) ys ss H5 := rel.imp fun _ _ z => z.mono e35
      have lenE : ∀ {G : Hp}, Lx (some (st, l)) H5 G → Ev K (some (st, l)) (tCB (rLn K) (tCons (tVar 5) tNil)) [some (.ref st), some (.ref a), some (.int (bs.length : Int)), some (.int (i : Int)), some (.int (j : Int)), some (.ref b), some (.int kd), some (.int (pl : Int))] G (.int (ys.length : Int)) := fun e => ev_cb (ea_cons (ev_var rfl) ea_nil) (rc_len (LA.of (e.1 _ _ nb hy5) nb))
      have lE : (lx_start iv5.1).refl = (lx_start iv5.1).refl := rfl
      refine s_if1 (b := decide (kd < 2) || decide (ys.length = 0)) (et_is (et_or (et_test (ev_op (ev_var rfl) ev_c rv_I0)) fun _ => et_test (ev_op (lenE (lx_start iv5.1)) ev_c (rv_eq rfl))) (by simp)) (fun hb => ?_) (fun hb => ?_)
      · refine s_insX1 (P1 := fun v _ => v = .int (pl : Int)) hy5 nb (ev_var rfl) (ev_var rfl).toX (by rw [sizeLine_eq]; omega) ?_
        rintro _ H6 e6 rfl
        refine ⟨pl, rfl, by omega, (ex_pS (P' := fun v H2 => ∃ s, StmA (some (st, l)) H2 v s) (ea_cons (ev_var rfl) (ea_cons (ev_var rfl) (ea_cons (ev_var rfl) ea_nil))) fun G f => ⟨_, ⟨st, l, bs.length, j, rfl, rfl, l1, l2, rfl⟩, fun v G2 f2 z => z⟩).imp ?_⟩
        rintro w H7 e7 ⟨s, sw⟩
        have e57 := e6.trans e7
        exact ⟨⟨_, _, _, _, _, rfl⟩, put (mono iv5 e57) h1 (e57.1 _ _ nb hy5) ((rel5.imp (fun _ _ z => z.mono e57)).ins pl sw (by omega)) (by simp; omega)⟩
      have hb' : ¬ ys.length = 0 := by
        intro z
        rw [decide_eq_true z, Bool.or_true] at hb
        cases hb
      have mn : Ev K (some (st, l)) (tCB (fun xs H Q => ∃ i j, xs = [.int i, .int j] ∧ Q (.int (if j < i then j else i)) H) (tCons (tCB rInt1 (tCons (tVar 7) tNil)) (tCons (tOp (rI0 fun i j => .int (i - j)) (tCB (rLn K) (tCons (tVar 5) tNil)) (tC (.int 1))) tNil))) [some (.ref st), some (.ref a), some (.int (bs.length : Int)), some (.int (i : Int)), some (.int (j : Int)), some (.ref b), some (.int kd), some (.int (pl : Int))] H5 (.int ((min pl (ys.length - 1) : Nat) : Int)) := ev_is (ev_cb (ea_cons (ev_cb (ea_cons (ev_var rfl) ea_nil) rc_int) (ea_cons (ev_op (lenE (lx_start iv5.1)) ev_c rv_I0) ea_nil)) rc_min2) (by congr 1; omega)
      have lm : min pl (ys.length - 1) < ys.length := by omega
      refine s_if1 (b := decide (kd = 2)) (et_is (et_test (ev_op (ev_var rfl) ev_c (rv_eq rfl))) (by simp)) (fun hb2 => ?_) (fun hb2 => ?_)
      · refine s_popX1 hy5 nb (ev_var rfl) mn rfl lm (by rw [sizeLine_eq]; omega) fun H6 e6 => ?_
        exact ⟨⟨_, _, _, _, _, rfl⟩, put (mono iv5 e6) h1 (e6.1 _ _ nb hy5) ((rel5.imp (fun _ _ z => z.mono e6)).erase _) (by rw [List.length_eraseIdx]; split <;> omega)⟩
      refine s_if1 (b := decide (kd = 3)) (et_is (et_test (ev_op (ev_var rfl) ev_c (rv_eq rfl))) (by simp)) (fun hb3 => ?_) (fun hb3 => ?_)
      · obtain ⟨y, s, y1, y2, sm⟩ := rel5.get (i := min pl (ys.length - 1)) (by omega)
        refine s_app1 (v := y) hy5 nb (ev_var rfl) (ev_op (ev_var rfl) mn (rv_ixL (LA.of hy5 nb) (at_of (j := min pl (ys.length - 1)) (by omega) y1))) (by rw [sizeLine_eq]; omega) fun H6 e6 => ?_
        exact ⟨⟨_, _, _, _, _, rfl⟩, mono (put iv5 h1 hy5 (rel5.snoc sm) (by simp; omega)) e6⟩
      · match ys, hb', hy5, rel5 with
        | y :: ys, hb', hy5, rel5 =>
          match ss, ls, rel5 with
          | [], ls, rel5 => exact absurd rel5.1 (by simp)
          | s :: ss, ls, rel5 =>
            refine s_rot1 hy5 nb (ev_var rfl) (fun _ _ => rfl) (by simp at ly; simp at ls; rw [sizeLine_eq]; omega) fun H6 e6 => ?_
            have r6 : RelL (fun v s H => StmA (some (st, l)) H v s) (y :: ys) (s :: ss) H6 := rel5.imp fun _ _ z => z.mono e6
            have rt : RelL (fun v s H => StmA (some (st, l)) H v s) ys ss H6 := ⟨by simpa using r6.1, fun q v t z1 z2 => r6.2 (q + 1) v t z1 z2⟩
            have rr := rt.snoc (r6.2 0 y s rfl rfl)
            rw [show upd (upd H6 b (.lst ys)) b (.lst (ys ++ [y])) = upd H6 b (.lst (ys ++ [y])) by funext c; simp only [upd]; split <;> rfl]
            exact ⟨⟨_, _, _, _, _, rfl⟩, put (mono iv5 e6) h1 (e6.1 _ _ nb hy5) rr (by simp at ls ⊢; omega)⟩
    · rintro σ' H2 ⟨⟨v3, v4, v5, v6, v7, rfl⟩, iv⟩
      obtain ⟨d2, ⟨bs', b1, b2, b3⟩, kp⟩ := id iv
      exact s_ret (la b1 (ev_var rfl)) fun H3 e3 => by
        obtain ⟨d2, ⟨bs', b1, b2, b3⟩, kp⟩ := mono iv e3
        exact k bs' H3 d2 b1 b2 (fun ss hs => by have := b3 ss hs; omega) kp
/-! _law_program -/
/-- a program is made: everything of it is new -/
def MadeP (K : PySem.W.Frag) (H0 : Hp) (bs : List (List Stm)) (v : V) (H : Hp) : Prop := ∃ x q as, v = .ref x ∧ H0 x = none ∧ H0 q = none ∧ (∀ b ∈ as, H0 b = none) ∧ ProgM K H x q as bs
theorem MadeP.back {H H1 H2 : Hp} {bs : List (List Stm)} {v : V} (e : Lx none H H1) (h : MadeP K H1 bs v H2) : MadeP K H bs v H2 := by
  obtain ⟨x, q, as, h1, h2, h3, h4, h5⟩ := h
  exact ⟨x, q, as, h1, e.fresh h2, e.fresh h3, fun b hb => e.fresh (h4 b hb), h5⟩
def a_lprog (K : PySem.W.Frag) : List V → Hp → Dst → (V → Hp → Prop) → (Value → Addr → Hp → Prop) → Prop := fun vs H S PP PE => S = none ∧ ∃ (a : Addr) (as : List Addr) (bs : List (List Stm)), vs = [.ref a] ∧ BodsM none H a as bs ∧ bs.length ≤ 4 ∧ PP = (fun v H2 => faultP bs = none ∧ MadeP K H bs v H2) ∧ PE = fun cls d H2 => ∃ s i, faultP bs = some (s, i) ∧ BadPr K none H s i cls d H2
theorem ex_prog {H : Hp} {σ : L2.St} {tas : TA} {ys : List V} {bs : List (List Stm)} {E : XK} (h : EvA K none tas σ H ys) (hb : BodsR none H ys bs) (l6 : bs.length ≤ 600) (ke : ∀ s i cls d H', faultP bs = some (s, i) → Lx none H H' → BadPr K none H s i cls d H' → E cls (some d) H') :
    EvX K none (StX.tMakeR (He.ga K "Program") (fun vs H Q E => ∃ v0 rest, vs = v0 ++ rest ∧ v0.length = 1 ∧ rest.length ≤ 1000 ∧ ∀ p, H p = none → (sp_pinit K) (v0 ++ [.ref p]) (upd H p (.tup rest)) Q E) E tas) σ H (fun v H2 => faultP bs = none ∧ MadeP K H bs v H2) := fun H1 e Q q => h H1 e _ fun H2 e2 x dx h1 h2 ne => by
  have er : Lx none H2 (Raw H2 x dx (He.ga K "Program")) := (Lx.rfl0 (H := H2)).raw h1 h2 ne
  have e02 := e.trans e2
  have ly := hb.1
  refine ⟨[.ref x], ys, rfl, rfl, by rw [ly]; omega, fun t ht => ?_⟩
  have tx : t ≠ x := fun z => by rw [z] at ht; simp [upd] at ht
  have et : Lx none (Raw H2 x dx (He.ga K "Program")) (upd (Raw H2 x dx (He.ga K "Program")) t (.tup ys)) := Lx.rfl0.new ht
  have e2t := er.trans et
  refine ⟨x, dx, t, ys, bs, rfl, by rw [upd_ne tx.symm]; exact upd_same, upd_same, (hb.mono e02).mono e2t, l6, fun q' as H' hf keep fq fas pm => ⟨rfl, q _ _ ⟨fun b o _ hb => keep b o (fun z => ?_) (e2t.1 _ _ sx_none (e2.1 _ _ sx_none hb)), fun p hp => nomatch hp⟩ ⟨hf, x, q', as, rfl, e02.fresh h1, e02.fresh (e2t.fresh fq), fun b hb => e02.fresh (e2t.fresh (fas b hb)), pm⟩⟩, fun s i cls d H' hf e3 z => ke s i cls d H' hf ((e02.trans e2t).trans e3) (z.back (e02.trans e2t))⟩
  subst z
  have := e2.1 _ _ sx_none hb
  rw [h1] at this
  cases this
theorem okr__law_program (T : Txt K mg w) : Ok P w K mg base (L2N.CX P w) 7 (He.fAd K ("_law_program", none)) ["bodies"] (sp_xe (a_lprog K)) := by
  refine okDX (F__law_program T) sc__law_program (fun _ _ _ _ _ _ us hl => match us, hl with | [_], _ => rfl) (fun vs H Q E h => ?_) (fun cdv A outer s H vs Q E hr h => ?_)
  · obtain ⟨S, PP, PE, ⟨rfl, a, as, bs, rfl, _⟩, _⟩ := h; rfl
  · obtain ⟨S, PP, PE, ⟨rfl, a, as, bs, rfl, bm, l4, rfl, rfl⟩, _, k, ke⟩ := h
    refine ⟨_, (pss_cons (ps_if (pt_cmpR op_eq (pe_callB (lenK K rfl) (by rfl) (n_len T) (by decide +kernel) (pa_cons (pv 0) pa_nil)) pe_int (nomark _))
      (pss_one (ps_ret (pe_makeVX0 (M_Program T) (okr_ProgramD__initD_ T) (hr.mono (by first | decide | omega)) rfl (g_Program T) (passX (L2N.takes_of rfl rfl rfl rfl)))))
      pss_nil)
      (pss_cons (ps_if (pt_cmpR op_eq (pe_callB (lenK K rfl) (by rfl) (n_len T) (by decide +kernel) (pa_cons (pv 0) pa_nil)) pe_int (nomark _))
      (pss_one (ps_ret (pe_makeVX (M_Program T) (okr_ProgramD__initD_ T) (hr.mono (by first | decide | omega)) rfl (g_Program T) (passX (L2N.takes_of rfl rfl rfl rfl)) (pa_cons (pe_ix (ixL K rfl) (pv 0) pe_int (fun _ _ => rfl)) pa_nil))))
      pss_nil)
      (pss_cons (ps_if (pt_cmpR op_eq (pe_callB (lenK K rfl) (by rfl) (n_len T) (by decide +kernel) (pa_cons (pv 0) pa_nil)) pe_int (nomark _))
      (pss_one (ps_ret (pe_makeVX (M_Program T) (okr_ProgramD__initD_ T) (hr.mono (by first | decide | omega)) rfl (g_Program T) (passX (L2N.takes_of rfl rfl rfl rfl)) (pa_cons (pe_ix (ixL K rfl) (pv 0) pe_int (fun _ _ => rfl)) (pa_cons (pe_ix (ixL K rfl) (pv 0) pe_int (fun _ _ => rfl)) pa_nil)))))
      pss_nil)
      (pss_cons (ps_if (pt_cmpR op_eq (pe_callB (lenK K rfl) (by rfl) (n_len T) (by decide +kernel) (pa_cons (pv 0) pa_nil)) pe_int (nomark _))
      (pss_one (ps_ret (pe_makeVX (M_Program T) (okr_ProgramD__initD_ T) (hr.mono (by first | decide | omega)) rfl (g_Program T) (passX (L2N.takes_of rfl rfl rfl rfl)) (pa_cons (pe_ix (ixL K rfl) (pv 0) pe_int (fun _ _ => rfl)) (pa_cons (pe_ix (ixL K rfl) (pv 0) pe_int (fun _ _ => rfl)) (pa_cons (pe_ix (ixL K rfl) (pv 0) pe_int (fun _ _ => rfl)) pa_nil))))))
      pss_nil)
      (pss_one (ps_ret (pe_makeVX (M_Program T) (okr_ProgramD__initD_ T) (hr.mono (by first | decide | omega)) rfl (g_Program T) (passX (L2N.takes_of rfl rfl rfl rfl)) (pa_cons (pe_ix (ixL K rfl) (pv 0) pe_int (fun _ _ => rfl)) (pa_cons (pe_ix (ixL K rfl) (pv 0) pe_int (fun _ _ => rfl)) (pa_cons (pe_ix (ixL K rfl) (pv 0) pe_int (fun _ _ => rfl)) (pa_cons (pe_ix (ixL K rfl) (pv 0) pe_int (fun _ _ => rfl)) pa_nil))))))))))), ?_⟩
    refine go (K := K) (σ' := [some (.ref a)]) rfl ?_
    have la : ∀ {c : Int} {Z : Prop} [Decidable Z], ((bs.length : Int) = c ↔ Z) → EvT K none (tTest (tOp rEq (tCB (rLn K) (tCons (tVar 0) tNil)) (tC (.int c)))) [some (.ref a)] H (decide Z) := fun {c Z _} e => et_is (et_test (ev_op (ev_is (ev_cb (ea_cons (ev_var rfl) ea_nil) (rc_len (LA.of bm.at_ sx_none))) (by rw [List.length_map, bm.len])) ev_c (rv_eq rfl))) (by rw [Bool.eq_iff_iff, decide_eq_true_iff, decide_eq_true_iff, V.int.injEq]; exact e)
    have bl := bm.len
    have it : ∀ (j : Nat) (b : Addr), as[j]? = some b → Ev K none (tOp (rIxL K) (tVar 0) (tC (.int (j : Int)))) [some (.ref a)] H (.ref b) := fun j b hj => ev_op (ev_var rfl) ev_c (rv_ixL (LA.of bm.at_ sx_none) (at_of rfl (by rw [List.getElem?_map, hj]; rfl)))
    have fin : ∀ tas : TA, EvA K none tas [some (.ref a)] H (as.map V.ref) → EvX K none (StX.tMakeR (He.ga K "Program") (fun vs H Q E => ∃ v0 rest, vs = v0 ++ rest ∧ v0.length = 1 ∧ rest.length ≤ 1000 ∧ ∀ p, H p = none → (sp_pinit K) (v0 ++ [.ref p]) (upd H p (.tup rest)) Q E) E tas) [some (.ref a)] H (fun v H2 => faultP bs = none ∧ MadeP K H bs v H2) := fun tas h => ex_prog h bm.rel (by omega) fun s i cls d H' hf e z => ke _ _ _ e ⟨s, i, hf, z⟩
    match as, bl, bm, it, fin with
    | [], bl, bm, it, fin =>
      refine s_if (b := decide True) (la (c := 0) ⟨fun _ => trivial, fun _ => by simp at bl; omega⟩) (fun _ => s_retX (fin _ ea_nil) k) (fun z => nomatch z)
    | [b0], bl, bm, it, fin =>
      simp at bl
      refine s_if (b := decide False) (la (c := 0) ⟨fun z => by omega, False.elim⟩) (fun z => nomatch z) (fun _ => s_next ?_)
      refine s_if (b := decide True) (la (c := 1) ⟨fun _ => trivial, fun _ => by omega⟩) (fun _ => s_retX (fin _ (ea_cons (it 0 _ rfl) ea_nil)) k) (fun z => nomatch z)
    | [b0, b1], bl, bm, it, fin =>
      simp at bl
      refine s_if (b := decide False) (la (c := 0) ⟨fun z => by omega, False.elim⟩) (fun z => nomatch z) (fun _ => s_next ?_)
      refine s_if (b := decide False) (la (c := 1) ⟨fun z => by omega, False.elim⟩) (fun z => nomatch z) (fun _ => s_next ?_)
      refine s_if (b := decide True) (la (c := 2) ⟨fun _ => trivial, fun _ => by omega⟩) (fun _ => s_retX (fin _ (ea_cons (it 0 _ rfl) (ea_cons (it 1 _ rfl) ea_nil))) k) (fun z => nomatch z)
    | [b0, b1, b2], bl, bm, it, fin =>
      simp at bl
      refine s_if (b := decide False) (la (c := 0) ⟨fun z => by omega, False.elim⟩) (fun z => nomatch z) (fun _ => s_next ?_)
      refine s_if (b := decide False) (la (c := 1) ⟨fun z => by omega, False.elim⟩) (fun z => nomatch z) (fun _ => s_next ?_)
      refine s_if (b := decide False) (la (c := 2) ⟨fun z => by omega, False.elim⟩) (fun z => nomatch z) (fun _ => s_next ?_)
      refine s_if (b := decide True) (la (c := 3) ⟨fun _ => trivial, fun _ => by omega⟩) (fun _ => s_retX (fin _ (ea_cons (it 0 _ rfl) (ea_cons (it 1 _ rfl) (ea_cons (it 2 _ rfl) ea_nil)))) k) (fun z => nomatch z)
    | [b0, b1, b2, b3], bl, bm, it, fin =>
      simp at bl
      refine s_if (b := decide False) (la (c := 0) ⟨fun z => by omega, False.elim⟩) (fun z => nomatch z) (fun _ => s_next ?_)
      refine s_if (b := decide False) (la (c := 1) ⟨fun z => by omega, False.elim⟩) (fun z => nomatch z) (fun _ => s_next ?_)
      refine s_if (b := decide False) (la (c := 2) ⟨fun z => by omega, False.elim⟩) (fun z => nomatch z) (fun _ => s_next ?_)
      refine s_if (b := decide False) (la (c := 3) ⟨fun z => by omega, False.elim⟩) (fun z => nomatch z) (fun _ => s_next ?_)
      exact s_retX (fin _ (ea_cons (it 0 _ rfl) (ea_cons (it 1 _ rfl) (ea_cons (it 2 _ rfl) (ea_cons (it 3 _ rfl) ea_nil))))) k
    | _ :: _ :: _ :: _ :: _ :: _, bl, bm, it, fin =>
      simp at bl
      omega
/-! _law_attempt -/
/-- what an attempt gives -/
def TriedP (K : PySem.W.Frag) (H0 : Hp) (bs : List (List Stm)) (v : V) (H : Hp) : Prop := ∃ r, v = .ref r ∧ H0 r = none ∧ match faultP bs with
  | none => ∃ x, H r = some (.lst [x, .non]) ∧ MadeP K H0 bs x H
  | some (s, i) => ∃ t, H r = some (.lst [.non, .ref t]) ∧ H t = some (.tup [.str "bad program", .int (s : Int), oN i, .bl false])
theorem TriedP.back {H H1 H2 : Hp} {bs : List (List Stm)} {v : V} (e : Lx none H H1) (h : TriedP K H1 bs v H2) : TriedP K H bs v H2 := by
  obtain ⟨r, hv, fr, z⟩ := h
  refine ⟨r, hv, e.fresh fr, ?_⟩
  cases hf : faultP bs with
  | none =>
    rw [hf] at z
    obtain ⟨x, h1, h2⟩ := z
    exact ⟨x, h1, h2.back e⟩
  | some si =>
    rw [hf] at z
    exact z
def a_attempt (K : PySem.W.Frag) : List V → Hp → Dst → (V → Hp → Prop) → Prop := fun vs H S PP => S = none ∧ ∃ (a : Addr) (as : List Addr) (bs : List (List Stm)), vs = [.ref a] ∧ BodsM none H a as bs ∧ bs.length ≤ 4 ∧ PP = TriedP K H bs
theorem ok__law_attempt (T : Txt K mg w) : Ok P w K mg base CX0 8 (He.fAd K ("_law_attempt", none)) ["bodies"] (sp_x (a_attempt K)) := by
  refine okD (F__law_attempt T) sc__law_attempt (fun _ _ _ _ _ _ us hl => match us, hl with | [_], _ => rfl) (fun vs H Q E h => ?_) (fun cdv A outer s H vs Q E hr h => ?_)
  · obtain ⟨S, PP, ⟨rfl, a, as, bs, rfl, _⟩, _⟩ := h; rfl
  · obtain ⟨S, PP, ⟨rfl, a, as, bs, rfl, bm, l4, rfl⟩, _, k⟩ := h
    refine ⟨_, (pss_one (L2N.ps_try_as (i := 1) rfl rfl sc__law_attempt.nd rfl rfl ⟨rfl, by decide, .inl (g_BadProgram T)⟩ takesN0 (fun W pn xe tk _ => (pss_one (ps_ret (pe_lst (pa_cons (pe_callS (okr__law_program T) (hr.mono (by first | decide | omega)) rfl (g__law_program T) (passS tk) (pa_cons (pv 0) pa_nil)) (pa_cons pe_non pa_nil)))))) (fun a oe cls d pn hz hf => (pss_one (ps_ret (pe_lst (pa_cons pe_non (pa_cons (pe_tup (pa_cons (pe_xf (xf_BadProgram T) (nf_BadProgram_reason T) hz.zc hf (pv 1)) (pa_cons (pe_xf (xf_BadProgram T) (nf_BadProgram_slot T) hz.zc hf (pv 1)) (pa_cons (pe_xf (xf_BadProgram T) (nf_BadProgram_at T) hz.zc hf (pv 1)) (pa_cons (pe_callB (call_isX hz.zc hf) (by rfl) (n_isinstance T) (by decide +kernel) (pa_cons (pv 1) (pa_cons (pe_glob (v := V.ref (He.ga K "TooMany")) rfl (g_TooMany T) rfl) pa_nil))) pa_nil))))) pa_nil)))))))), ?_⟩
    refine go (K := K) (σ' := [some (.ref a), none]) rfl ?_
    refine s_sq (s_retX (P := fun v H2 => TriedP K H bs v H2) ((ex_lstX (PA := fun vs H2 => ∃ x, vs = [x, .non] ∧ faultP bs = none ∧ MadeP K H bs x H2) (eax_cons (ex_callS (P := fun v H2 => faultP bs = none ∧ MadeP K H bs v H2) (ea_cons (ev_var rfl) ea_nil) (spx_xE fun H1 e => ⟨_, _, ⟨rfl, a, as, bs, rfl, bm.mono e, l4, rfl, rfl⟩, fun v H2 e2 z => ⟨z.1, z.2.back e⟩, ?_⟩)) ?_) ?_).imp ?_) ?_)
    · rintro cls d H2 e2 ⟨s, i, hf, rfl, fd, nd, hd⟩
      refine wE_yes (exm_BadProgram_BadProgram T) (fun x hx => ?_) Lx.rfl0
      dsimp only [List.set]
      have e02 := e.trans e2
      have xf : ∀ {f : Str} {v : V} {G : Hp}, Lx none H2 G → [(("at" : Str), oN i), ("slot", .int (s : Int)), ("reason", .str "bad program")].lookup f = some v → Ev K none (tXf x (.ref (He.ga K "BadProgram")) (some d) (He.ga K "BadProgram") f (tVar 1)) [some (.ref a), some (.ref x)] G v := fun e l => ev_xf (ev_var rfl) rfl rfl (e.1 _ _ nd hd) nd l
      refine s_retX (P := fun v G => ∃ r t, v = .ref r ∧ H2 r = none ∧ G r = some (.lst [.non, .ref t]) ∧ G t = some (.tup [.str "bad program", .int (s : Int), oN i, .bl false])) ((ex_lstX (PA := fun vs G => ∃ t, vs = [.non, .ref t] ∧ G t = some (.tup [.str "bad program", .int (s : Int), oN i, .bl false])) (eax_cons ev_c.toX ?_) ?_).imp ?_) ?_
      · rintro _ G1 f1 rfl
        refine eax_cons (ex_tup (vs := [.str "bad program", .int (s : Int), oN i, .bl false]) (ea_cons (xf f1 rfl) (ea_cons (xf f1 rfl) (ea_cons (xf f1 rfl) (ea_cons (ev_isx (ev_var rfl) ev_c rfl (xc_BadProgram T) rfl (f1.1 _ _ nd hd) nd (fun u h => h) (kit_BadProgram_TooMany T)) ea_nil)))) (len_le (by simp))) ?_
        rintro _ G2 f2 ⟨t, rfl, _, nt, ht⟩
        exact ea_nil.toX.imp fun w G3 f3 z => ⟨t, by rw [z], f3.1 _ _ nt ht⟩
      · rintro vs G ⟨t, rfl, _⟩
        exact len_le (by simp)
      · rintro v G f ⟨vs, G1, ⟨t, rfl, ht⟩, f1, f2, r, rfl, fr, nr, hr⟩
        exact ⟨r, t, rfl, fr, hr, f2.1 _ _ sx_none ht⟩
      · rintro v G f ⟨r, t, rfl, fr, hr, ht⟩
        exact k _ _ (e02.trans f) ⟨r, rfl, e02.fresh fr, by rw [hf]; exact ⟨t, hr, ht⟩⟩
    · rintro v G1 f1 ⟨hf, m⟩
      refine (EvA.toX (vs := [.non]) (ea_cons ev_c ea_nil)).imp fun w G2 f2 z => ⟨v, by rw [z], hf, ?_⟩
      obtain ⟨x, q, as', h1, h2, h3, h4, h5⟩ := m
      exact ⟨x, q, as', h1, h2, h3, h4, h5.mono f2⟩
    · rintro vs G ⟨x, rfl, _⟩
      exact len_le (by simp)
    · rintro v G f ⟨vs, G1, ⟨x, rfl, hf, m⟩, f1, f2, r, rfl, fr, nr, hr⟩
      refine ⟨r, rfl, fr, ?_⟩
      rw [hf]
      obtain ⟨x', q, as', h1, h2, h3, h4, h5⟩ := m
      exact ⟨x, hr, x', q, as', h1, h2, h3, h4, h5.mono f2⟩
    · rintro v G f z
      exact k _ _ f z
/-! _law_refused_by_base -/
def a_refbase (K : PySem.W.Frag) : List V → Hp → Dst → (V → Hp → Prop) → Prop := fun vs H S PP => S = none ∧ ∃ (a : Addr) (as : List Addr) (bs : List (List Stm)), vs = [.ref a] ∧ BodsM none H a as bs ∧ bs.length ≤ 4 ∧ faultP bs ≠ none ∧ PP = fun v _ => v = .bl true
theorem ok__law_refused_by_base (T : Txt K mg w) : Ok P w K mg base CX0 8 (He.fAd K ("_law_refused_by_base", none)) ["bodies"] (sp_x (a_refbase K)) := by
  refine okD (F__law_refused_by_base T) sc__law_refused_by_base (fun _ _ _ _ _ _ us hl => match us, hl with | [_], _ => rfl) (fun vs H Q E h => ?_) (fun cdv A outer s H vs Q E hr h => ?_)
  · obtain ⟨S, PP, ⟨rfl, a, as, bs, rfl, _⟩, _⟩ := h; rfl
  · obtain ⟨S, PP, ⟨rfl, a, as, bs, rfl, bm, l4, nf, rfl⟩, _, k⟩ := h
    refine ⟨_, (pss_cons (L2N.ps_try_as (i := 1) rfl rfl sc__law_refused_by_base.nd rfl rfl ⟨rfl, by decide, .inl (g_ForkError T)⟩ takesN0 (fun W pn xe tk _ => (pss_one (ps_expr (pe_callS (okr__law_program T) (hr.mono (by first | decide | omega)) rfl (g__law_program T) (passS tk) (pa_cons (pv 0) pa_nil))))) (fun a oe cls d pn hz hf => (pss_one (ps_ret (pe_and (pe_callB (call_isX hz.zc hf) (by rfl) (n_isinstance T) (by decide +kernel) (pa_cons (pv 1) (pa_cons (pe_bltn (v := .ty "ValueError") (by rfl) (n_ValueError T) (by decide +kernel) rfl) pa_nil))) (pe_one (pe_callOH (hot_suite hz hf) (okh__law_same T) (L2H.roomH_mark (hr.mono (by first | decide | omega)) _) rfl (g__law_same T) pass0 (pa_cons (pe_xf (xf_BadProgram T) (nf_BadProgram_reason T) hz.zc hf (pv 1)) (pa_cons pe_str pa_nil)))))))))
      (pss_one (ps_ret pe_bl))), ?_⟩
    refine go (K := K) (σ' := [some (.ref a), none]) rfl ?_
    refine s_sq (s_dropX1 (K := K) (P := fun v H2 => False) (ex_callS (ea_cons (ev_var rfl) ea_nil) (spx_xE fun H1 e => ⟨_, _, ⟨rfl, a, as, bs, rfl, bm.mono e, l4, rfl, rfl⟩, fun v H2 e2 z => nf z.1, ?_⟩)) (fun _ _ _ z => z.elim))
    rintro cls d H2 e2 ⟨s, i, hf, rfl, fd, nd, hd⟩
    refine wE_yes (exm_BadProgram_ForkError T) (fun x hx => ?_) Lx.rfl0
    dsimp only [List.set]
    exact s_ret (ev_andV (ev_isx (ev_var rfl) ev_c rfl (xc_BadProgram T) rfl hd nd (fun u h => h) (kitV_BadProgram T)) fun _ => ev_same (d := PyData.str "bad program") (n := 5) (ev_xf (ev_var rfl) rfl rfl hd nd rfl) ev_c (Rp.str _) (Rp.str _) (by simp [PyData.depth])) fun H3 e3 => k _ _ ((e.trans e2).trans e3) rfl
/-! _law_made_stands -/
def sp_stands (K : PySem.W.Frag) : Sp := fun vs H Q _ => ∃ (x q g a : Addr) (as gs bsd : List Addr) (bs : List (List Stm)), vs = [.ref x, .ref g, .ref a] ∧ ProgM K H x q as bs ∧ BodsM none H g gs bs ∧ BodsM none H a bsd bs ∧ 1 ≤ bs.length ∧ bs.length ≤ 4 ∧ (∀ ss ∈ bs, ss.length ≤ 800) ∧ faultP bs = none ∧
  (∀ b ∈ gs, b ≠ q ∧ b ∉ as ∧ b ≠ a ∧ b ∉ bsd) ∧ ∀ H', Q (.bl true) H'
theorem ProgM.upd {H : Hp} {x q c : Addr} {as : List Addr} {bs : List (List Stm)} {ss : List Stm} {ws : List V} (h : ProgM K H x q as bs) (l1 : 1 ≤ bs.length) (n : c ≠ q) (m : c ∉ as) (hc : BodyA none H c ss) : ProgM K (L2.upd H c (.lst ws)) x q as bs := by
  obtain ⟨p, par, ia, hp, g0, bm⟩ := h
  obtain ⟨nc, zs, hz, rel⟩ := hc
  have pc : p ≠ c := fun z => by
    rw [z, hz] at hp
    injection hp with hp
    injection hp with hp
    have h0 := parL_get (n := bs.length) (par := par) (k := 0) (by omega)
    rw [← hp] at h0
    have lz := (List.getElem?_eq_some_iff.mp h0).1
    obtain ⟨p', e, _⟩ := rel.2 0 _ (ss[0]'(by rw [← rel.1]; exact lz)) h0 (List.getElem?_eq_getElem _)
    unfold parV at e
    cases hpar : par 0 <;> rw [hpar] at e <;> cases e
  exact ⟨p, par, ia.stab hz, by rw [upd_ne pc]; exact hp, g0, bm.upd n.symm m hz⟩
theorem ok__law_made_stands (T : Txt K mg w) : Ok P w K mg base CX0 9 (He.fAd K ("_law_made_stands", none)) ["program", "given", "bodies"] (sp_stands K) := by
  refine okD (F__law_made_stands T) sc__law_made_stands (fun _ _ _ _ _ _ us hl => match us, hl with | [_, _, _], _ => rfl) (fun vs H Q E h => ?_) (fun cdv A outer s H vs Q E hr h => ?_)
  · obtain ⟨x, q, g, a, as, gs, bsd, bs, rfl, _⟩ := h; rfl
  · obtain ⟨x, q, g, a, as, gs, bsd, bs, rfl, pm, gm, bm, l1, l4, ll, hf, ap, k⟩ := h
    refine ⟨_, (pss_cons (ps_if (PW.pt (pw_or (pt_not (pt_val (pe_callB (isiK K rfl) (by rfl) (n_isinstance T) (by decide +kernel) (pa_cons (pv 0) (pa_cons (pe_glob (v := V.ref (He.ga K "Program")) rfl (g_Program T) rfl) pa_nil))))) (pw_or1 (pt_not (pt_val (pe_callO (ok__law_bodies_stand T) (hr.mono (by first | decide | omega)) rfl (g__law_bodies_stand T) pass0 (pa_cons (pv 0) (pa_cons (pv 2) pa_nil))))))))
      (pss_one (ps_ret pe_bl))
      pss_nil)
      (pss_cons (ps_for PassesOwn.never rfl (piLK K rfl (pv 1)) (pg_name (i := 3) sc__law_made_stands.nd rfl (Or.inl rfl))
      (pss_one (ps_expr (bmK K rfl PySem.F.plainAttrs_list PySem.F.slot_list_append PySem.F.type_list_append mt_append (pv 3) (pa_cons (pe_tup (pa_cons pe_str (pa_cons pe_int pa_nil))) pa_nil)))))
      (pss_cons (ps_set (i := 4) sc__law_made_stands.nd rfl (Or.inl rfl) (pe_methO (pv 0) (c_Program T) (m_Program_body T) (ok_Program_body T) (hr.mono (by first | decide | omega)) pass0 (pa_cons pe_int pa_nil)))
      (pss_cons (ps_expr (bmK K rfl PySem.F.plainAttrs_list PySem.F.slot_list_append PySem.F.type_list_append mt_append (pv 4) (pa_cons (pe_tup (pa_cons pe_str (pa_cons pe_int pa_nil))) pa_nil)))
      (pss_one (ps_ret (pe_and (pe_callO (ok__law_bodies_stand T) (hr.mono (by first | decide | omega)) rfl (g__law_bodies_stand T) pass0 (pa_cons (pv 0) (pa_cons (pv 2) pa_nil))) (pe_one (pe_cmpR op_isN (pe_ix (ixL K rfl) (pe_callO (ok__law_attempt T) (hr.mono (by first | decide | omega)) rfl (g__law_attempt T) pass0 (pa_cons (pv 2) pa_nil)) pe_int (fun _ _ => rfl)) pe_non (nomark _)))))))))), ?_⟩
    refine go (K := K) (σ' := [some (.ref x), some (.ref g), some (.ref a), none, none]) rfl ?_
    obtain ⟨pp, par, ia, _⟩ := id pm
    have std : ∀ {G : Hp} {v3 v4 : Option V}, ProgM K G x q as bs → BodsM none G a bsd bs → Ev K none (tCall (sp_x (a_bstand K)) [] E0 (tCons (tVar 0) (tCons (tVar 2) tNil))) [some (.ref x), some (.ref g), some (.ref a), v3, v4] G (.bl true) := fun p b => ev_p0 (ea_cons (ev_var rfl) (ea_cons (ev_var rfl) ea_nil)) fun G f => ⟨rfl, x, q, a, as, bsd, bs, rfl, p.mono f, b.mono f, by omega, fun ss hs => by have := ll ss hs; omega, rfl⟩
    refine s_if (b := false) (et_is (et_or (et_not (et_B (ev_isO (ev_var rfl) ev_c ia (c_Program T) (isc_Program T) kit_self))) fun _ => et_not (et_B (std pm bm))) rfl) (fun z => nomatch z) (fun _ => s_next ?_)
    refine s_forLn (ev_var rfl) (LA.of gm.at_ sx_none) (fun m σ' H' => (∃ v3, σ' = [some (.ref x), some (.ref g), some (.ref a), v3, none]) ∧ H' g = some (.lst (gs.map V.ref)) ∧ ProgM K H' x q as bs ∧ BodsM none H' a bsd bs ∧ ∀ (i : Nat) b ss, gs[i]? = some b → bs[i]? = some ss → m ≤ i → BodyA none H' b ss) wf0 (fun H1 e1 => ⟨⟨_, rfl⟩, e1.1 _ _ sx_none gm.at_, pm.mono e1, bm.mono e1, fun i b ss z1 z2 _ => (gm.all i b ss z1 z2).mono e1⟩) (fun m σ' H' _ z => LA.of z.2.1 sx_none) ?_ ?_
    · rintro m y σ' H1 hm ⟨⟨v3, rfl⟩, hg, p1, b1, all⟩
      dsimp only [List.set]
      rw [List.getElem?_map] at hm
      obtain ⟨b, hb, rfl⟩ := Option.map_eq_some_iff.mp hm
      have lm : m < bs.length := by rw [← gm.len]; exact (List.getElem?_eq_some_iff.mp hb).1
      have hs := List.getElem?_eq_getElem lm
      have bo := all m b _ hb hs (Nat.le_refl _)
      have ls := ll _ (List.mem_of_getElem? hs)
      obtain ⟨a1, a2, a3, a4⟩ := ap b (List.mem_of_getElem? hb)
      obtain ⟨nb, zs, hz, rel⟩ := id bo
      have lz := rel.1
      refine s_appX1 hz nb (ev_var rfl) (ex_stm (some ("wait", [0])) (ea_cons ev_c (ea_cons ev_c ea_nil)) (by simp [stV])) (by rw [sizeLine_eq]; omega) ?_
      rintro v H2 e2 sv H3 e3
      have bg : g ≠ b := fun z => gm.out (by rw [z]; exact List.mem_of_getElem? hb)
      refine ⟨⟨_, rfl⟩, e3.1 _ _ sx_none (by rw [upd_ne bg]; exact e2.1 _ _ sx_none hg), ((p1.mono e2).upd l1 a1 a2 (bo.mono e2)).mono e3, ((b1.mono e2).upd a3.symm a4 (e2.1 _ _ nb hz)).mono e3, fun i c ss z1 z2 z3 => (((all i c ss z1 z2 (by omega)).mono e2).upd (fun w => ?_) (e2.1 _ _ nb hz)).mono e3⟩
      subst w
      have pw := List.pairwise_iff_getElem.mp gm.nd
      have m1 := (List.getElem?_eq_some_iff.mp hb).1
      have q1 := (List.getElem?_eq_some_iff.mp z1).1
      exact pw m i m1 q1 (by omega) ((List.getElem?_eq_some_iff.mp hb).2.trans (List.getElem?_eq_some_iff.mp z1).2.symm)
    · rintro σ' H1 ⟨⟨v3, rfl⟩, hg, p1, b1, all⟩
      obtain ⟨pp1, par1, ia1, _⟩ := id p1
      have h0 := List.getElem?_eq_getElem (l := bs) (i := 0) (by omega)
      refine s_asgX (P := fun v G => ∃ r, v = .ref r ∧ H1 r = none ∧ BodyA none G r (bs[0]'(by omega))) (ex_meth (ev_var rfl) ia1 rfl (ea_cons ev_c ea_nil) (spx_0 fun G f => ⟨_, ⟨rfl, x, q, as, bs, 0, _, rfl, p1.mono f, h0, rfl⟩, fun v G2 f2 ⟨r, z1, z2, z3⟩ => ⟨r, z1, f.fresh z2, z3⟩⟩)) ?_
      rintro _ H2 e2 ⟨r, rfl, fr, bo⟩
      dsimp only [List.set]
      obtain ⟨nr, zs, hz, rel⟩ := id bo
      have lz := rel.1
      have ls := ll _ (List.mem_of_getElem? h0)
      refine s_appX hz nr (ev_var rfl) (ex_stm (some ("bear", [1])) (ea_cons ev_c (ea_cons ev_c ea_nil)) (by simp [stV])) (by rw [sizeLine_eq]; omega) ?_
      rintro v H3 e3 sv
      obtain ⟨pp2, par2, _, _, _, bq⟩ := id p1
      have alive : ∀ {c : Addr} {o : HO}, H1 c = some o → r ≠ c := fun z w => by rw [w] at fr; rw [fr] at z; cases z
      have inL : ∀ {G : Hp} {ad : Addr} {cs : List Addr}, BodsM none G ad cs bs → ∀ c ∈ cs, ∃ o, G c = some o := fun {G ad cs} z c hc => by
        obtain ⟨i, li, ei⟩ := List.mem_iff_getElem.mp hc
        have := z.len
        obtain ⟨b', ss, h1, h2, _, ys, h3, _⟩ := z.body (i := i) (by omega)
        rw [List.getElem?_eq_getElem li, ei] at h1
        cases h1
        exact ⟨_, h3⟩
      have e23 := e2.trans e3
      have p3 := (p1.mono e23).upd (ws := zs ++ [v]) l1 (alive bq.at_) (fun z => by obtain ⟨o, ho⟩ := inL bq r z; exact alive ho rfl) (bo.mono e3)
      have b3 := (b1.mono e23).upd (o := .lst (zs ++ [v])) (alive b1.at_).symm (fun z => by obtain ⟨o, ho⟩ := inL b1 r z; exact alive ho rfl) (e3.1 _ _ nr hz)
      refine s_retX (P := fun v _ => v = .bl true) ?_ fun v H4 e4 hv => by subst hv; exact k H4
      refine (ev_andV (b := true) (c := true) (std p3 b3) fun _ => ?_).toX
      refine (ex_op1 (P := fun v _ => v = .bl true) (ex_op1 (P := fun v _ => v = .non) (ex_p0 (P' := fun y G => TriedP K (upd H3 r (.lst (zs ++ [v]))) bs y G) (ea_cons (ev_var rfl) ea_nil) fun G f => ⟨_, ⟨rfl, a, bsd, bs, rfl, b3.mono f, l4, rfl⟩, fun v G2 f2 z => ?_⟩) ?_) ?_).ev fun _ _ _ z => z
      · exact z.back f
      · rintro v G f ⟨t, rfl, ft, z⟩
        rw [hf] at z
        obtain ⟨y, ht, _⟩ := z
        exact (ev_op ev_c ev_c (rv_ixL (LA.of ht sx_none) (at_of (j := 1) rfl rfl))).toX.imp fun w _ _ z => z
      · rintro _ G f rfl
        exact (ev_op ev_c ev_c rv_isN).toX.imp fun w _ _ z => z
/-! law -/
def sp_law (K : PySem.W.Frag) : Sp := fun vs H Q _ => ∃ (a : Addr) (ns : List Int), vs = [.ref a] ∧ SqL K H a (ns.map V.int) ∧ ns.length ≤ 63 ∧ ∀ H', Q (.bl true) H'
theorem sp_law_of {H : Hp} {a : Addr} {ns : List Int} {E : XK} (hl : ns.length ≤ 63) (hS : SqL K H a (ns.map V.int)) : sp_law K [.ref a] H (fun v _ => v = .bl true) E := ⟨a, ns, rfl, hS, hl, fun _ => rfl⟩
theorem ok_law (T : Txt K mg w) : Ok P w K mg base CX0 10 (He.fAd K ("law", none)) ["script"] (sp_law K) := by
  refine okD (F_law T) sc_law (fun _ _ _ _ _ _ us hl => match us, hl with | [_], _ => rfl) (fun vs H Q E h => ?_) (fun cdv A outer s H vs Q E hr h => ?_)
  · obtain ⟨a, ns, rfl, _⟩ := h; rfl
  · obtain ⟨a, ns, rfl, hS, hl, k⟩ := h
    refine ⟨_, (pss_cons (ps_set (i := 1) sc_law.nd rfl (Or.inl rfl) (pe_callO (ok__law_start T) (hr.mono (by first | decide | omega)) rfl (g__law_start T) pass0 (pa_cons (pv 0) pa_nil)))
      (pss_cons (ps_set (i := 2) sc_law.nd rfl (Or.inl rfl) (pe_callO (ok__law_drawn_bodies T) (hr.mono (by first | decide | omega)) rfl (g__law_drawn_bodies T) pass0 (pa_cons (pv 1) pa_nil)))
      (pss_cons (ps_if (PW.pt (pw_and (pt_cmpR op_gt (pe_callB (lenK K rfl) (by rfl) (n_len T) (by decide +kernel) (pa_cons (pv 2) pa_nil)) pe_int (nomark _)) (pw_and1 (pt_cmpR op_ne (pe_callO (ok__law_changed T) (hr.mono (by first | decide | omega)) rfl (g__law_changed T) pass0 (pa_cons (pv 1) (pa_cons (pv 2) pa_nil))) (pe_callB (lenK K rfl) (by rfl) (n_len T) (by decide +kernel) (pa_cons (pv 2) pa_nil)) (nomark _)))))
      (pss_one (ps_ret pe_bl))
      pss_nil)
      (pss_cons (ps_setLc (i := 3) (own := [("body", 4)]) (by rfl) sc_law.nd rfl rfl (sw_true rfl rfl rfl (by decide +kernel)) (piLK K rfl (pv 2)) (blkOk_by (own := [("body", 4)]) (N := ["script", "state", "bodies", "given", "body", "fault", "made"]) (sc := defScope s_law) (by decide +kernel)) (fun _ _ _ _ _ => by exact (pg_name (i := 4) sc_law.nd rfl (Or.inl rfl))) (fun _ _ _ _ _ => by exact pts_nil) (fun _ _ _ _ _ => by exact (pe_callTy (listK K rfl) (by rfl) (n_list T) (by decide +kernel) (pa_cons (pv 4) pa_nil))))
      (pss_cons (ps_set (i := 5) sc_law.nd rfl (Or.inl rfl) (pe_callO (ok__law_program_fault T) (hr.mono (by first | decide | omega)) rfl (g__law_program_fault T) pass0 (pa_cons (pv 2) pa_nil)))
      (pss_cons (ps_set (i := 6) sc_law.nd rfl (Or.inl rfl) (pe_callO (ok__law_attempt T) (hr.mono (by first | decide | omega)) rfl (g__law_attempt T) pass0 (pa_cons (pv 3) pa_nil)))
      (pss_cons (ps_if (pt_not (pt_val (pe_callO (ok__law_same T) (hr.mono (by first | decide | omega)) rfl (g__law_same T) pass0 (pa_cons (pv 3) (pa_cons (pv 2) pa_nil)))))
      (pss_one (ps_ret pe_bl))
      pss_nil)
      (pss_cons (ps_if (pt_cmpR op_isN (pv 5) pe_non (nomark _))
      (pss_one (ps_ret (pe_callO (ok__law_made_stands T) (hr.mono (by first | decide | omega)) rfl (g__law_made_stands T) pass0 (pa_cons (pe_ix (ixL K rfl) (pv 6) pe_int (fun _ _ => rfl)) (pa_cons (pv 3) (pa_cons (pv 2) pa_nil))))))
      pss_nil)
      (pss_cons (ps_if (pt_not (pt_val (pe_callO (ok__law_same T) (hr.mono (by first | decide | omega)) rfl (g__law_same T) pass0 (pa_cons (pe_ix (ixL K rfl) (pv 6) pe_int (fun _ _ => rfl)) (pa_cons (pe_tup (pa_cons (pe_ix (ixQ K rfl) (pv 5) pe_int (fun _ _ => rfl)) (pa_cons (pe_ix (ixQ K rfl) (pv 5) pe_int (fun _ _ => rfl)) (pa_cons (pe_ix (ixQ K rfl) (pv 5) pe_int (fun _ _ => rfl)) (pa_cons pe_bl pa_nil))))) pa_nil)))))
      (pss_one (ps_ret pe_bl))
      pss_nil)
      (pss_one (ps_ret (pe_and (pe_callO (ok__law_refused_by_base T) (hr.mono (by first | decide | omega)) rfl (g__law_refused_by_base T) pass0 (pa_cons (pv 3) pa_nil)) (pe_one (pe_cmpR op_isN (pe_ix (ixL K rfl) (pe_callO (ok__law_attempt T) (hr.mono (by first | decide | omega)) rfl (g__law_attempt T) pass0 (pa_cons (pe_lst (pa_cons (pe_lst (pa_cons (pe_tup (pa_cons pe_str (pa_cons pe_int pa_nil))) pa_nil)) pa_nil)) pa_nil)) pe_int (fun _ _ => rfl)) pe_non (nomark _))))))))))))))), ?_⟩
    refine go (K := K) (σ' := [some (.ref a), none, none, none, none, none, none]) rfl ?_
    refine s_asgX (ex_start (ev_var rfl) hS) ?_
    rintro v H1 _ ⟨st, l, rfl, d1⟩
    dsimp only [List.set]
    refine s_S d1 ?_
    refine s_asgX (ex_pS (P' := fun v H2 => ∃ a as bs, v = .ref a ∧ BodsM (some (st, l)) H2 a as bs ∧ bs.length ≤ 4 ∧ ∀ ss ∈ bs, ss.length ≤ 20) (ea_cons (ev_var rfl) ea_nil) fun G1 f1 => ⟨_, ⟨st, l, rfl, rfl, rfl⟩, fun _ _ _ z => z⟩) ?_
    rintro _ H2 e2 ⟨b, as, bs0, rfl, bm0, l4, l20⟩
    dsimp only [List.set]
    let fr : Option V := none
    refine s_seqK (fun σ' H' => σ' = [some (.ref a), some (.ref st), some (.ref b), none, none, none, none] ∧ ∃ bs, BodsM none H' b as bs ∧ bs.length ≤ 4 ∧ ∀ ss ∈ bs, ss.length ≤ 200) ?_ fun kk => ?_
    · rintro σ' H3 ⟨rfl, bs, bm, l4, ll⟩
      refine go (K := K) (σ' := [some (.ref a), some (.ref st), some (.ref b), none, none, none, none]) rfl ?_
      refine s_asgX (ex_copyL (ev_var rfl) (LA.of bm.at_ sx_none) bm.rel (by omega) (by simp [wipe]) (fun _ => rfl)) ?_
      rintro _ H4 e4 ⟨g, gs, rfl, fg, gm, fgs⟩
      dsimp only [List.set]
      have bm4 := bm.mono e4
      refine s_asgX (ex_p0 (P' := fun v H5 => FaultR H4 (faultP bs) v H5) (ea_cons (ev_var rfl) ea_nil) fun G1 f1 => ⟨_, ⟨rfl, b, as, bs, rfl, bm4.mono f1, by omega, fun ss hs => by have := ll ss hs; omega, rfl⟩, fun v G2 f2 z => ?_⟩) ?_
      · cases hf : faultP bs with
        | none => rw [hf] at z; exact z
        | some si =>
          rw [hf] at z
          obtain ⟨p, h1, h2, h3⟩ := z
          exact ⟨p, h1, f1.fresh h2, h3⟩
      rintro vf H5 e5 fv
      dsimp only [List.set]
      refine s_asgX (ex_p0 (P' := fun v H6 => TriedP K H5 bs v H6) (ea_cons (ev_var rfl) ea_nil) fun G1 f1 => ⟨_, ⟨rfl, g, gs, bs, rfl, (gm.mono e5).mono f1, l4, rfl⟩, fun v G2 f2 z => z.back f1⟩) ?_
      rintro _ H6 e6 ⟨r, rfl, fr, tp⟩
      dsimp only [List.set]
      have e56 := e5.trans e6
      have gm6 := gm.mono e56
      have bm6 := bm4.mono e56
      refine s_if (b := false) (et_not (b := true) (et_B (ev_same (n := 5) (E := E0) (ev_var rfl) (ev_var rfl) (gm6.rp (by omega) fun ss hs => by have := ll ss hs; omega) (bm6.rp (by omega) fun ss hs => by have := ll ss hs; omega) (by have := depth_bods (bs := bs); omega)))) (fun z => nomatch z) (fun _ => s_next ?_)
      cases hf : faultP bs with
      | none =>
        rw [hf] at fv tp
        obtain ⟨x, hr, x', q, as', rfl, fx, fq, fas, pm⟩ := tp
        obtain rfl : vf = .non := fv
        refine s_if (b := true) (et_test (ev_op (ev_var rfl) ev_c rv_isN)) (fun _ => ?_) (fun z => nomatch z)
        refine s_retSp (PA := fun vs G => vs = [.ref x', .ref g, .ref b]) (EvA.toX (ea_cons (ev_op (ev_var rfl) ev_c (rv_ixL (LA.of hr sx_none) (at_of (j := 0) rfl rfl))) (ea_cons (ev_var rfl) (ea_cons (ev_var rfl) ea_nil)))) ?_
        rintro _ H7 e7 rfl
        have nz : 1 ≤ bs.length := by
          by_cases z : bs.length = 0
          · unfold faultP at hf
            rw [if_pos z] at hf
            cases hf
          · omega
        have gin : ∀ c ∈ gs, ∃ o, H5 c = some o := fun c hc => by
          obtain ⟨i, li, ei⟩ := List.mem_iff_getElem.mp hc
          have := gm.len
          obtain ⟨b', ss, h1, h2, _, ys, h3, _⟩ := (gm.mono e5).body (i := i) (by omega)
          rw [List.getElem?_eq_getElem li, ei] at h1
          cases h1
          exact ⟨_, h3⟩
        refine ⟨x', q, g, b, as', gs, as, bs, rfl, pm.mono e7, gm6.mono e7, bm6.mono e7, nz, l4, fun ss hs => by have := ll ss hs; omega, hf, fun c hc => ⟨?_, ?_, ?_, ?_⟩, fun H' => k H'⟩
        · intro z
          obtain ⟨o, ho⟩ := gin c hc
          rw [z, fq] at ho
          cases ho
        · intro z
          obtain ⟨o, ho⟩ := gin c hc
          rw [fas c z] at ho
          cases ho
        · intro z
          have := fgs c hc
          rw [z, bm.at_] at this
          cases this
        · intro z
          obtain ⟨i, li, ei⟩ := List.mem_iff_getElem.mp z
          have := bm.len
          obtain ⟨b', ss, h1, h2, _, ys, h3, _⟩ := bm.body (i := i) (by omega)
          rw [List.getElem?_eq_getElem li, ei] at h1
          cases h1
          rw [fgs c hc] at h3
          cases h3
      | some si =>
        obtain ⟨s, i⟩ := si
        rw [hf] at fv tp
        obtain ⟨p, rfl, fp, hp⟩ := fv
        obtain ⟨t, hr, ht⟩ := tp
        have hp6 := e6.1 _ _ sx_none hp
        refine s_if (b := false) (et_test (ev_op (ev_var rfl) ev_c rv_isN)) (fun z => nomatch z) (fun _ => s_next ?_)
        have ix : ∀ {σ : L2.St} {te : TE} {G : Hp} {j : Nat} {v : V}, Lx none H6 G → Ev K none te σ G (.ref p) → [V.str "bad program", .int (s : Int), oN i][j]? = some v → Ev K none (tOp (rIx K) te (tC (.int (j : Int)))) σ G v := fun e h hv => ev_op h ev_c (rv_ix (.inr (SqT.of (e.1 _ _ sx_none hp6))) sx_none (at_of rfl hv))
        have r6 : ∀ {G : Hp} {q : Addr}, G q = some (.tup [.str "bad program", .int (s : Int), oN i, .bl false]) → Rp none G (.ref q) (.tuple [.str "bad program", .int (s : Int), (match i with | none => .none | some j => .int (j : Int)), .bool false]) := fun h => .tup h sx_none (by simp) (.cons (.str _) (.cons (.int _) (.cons (by cases i with
          | none => exact .non
          | some j => exact .int _) (.cons (.bl _) .nil))))
        refine s_ifX (PB := fun b _ => b = false) (etx_not (etx_B (ex_callX (PA := fun vs G => ∃ q, vs = [.ref t, .ref q] ∧ G t = some (.tup [.str "bad program", .int (s : Int), oN i, .bl false]) ∧ G q = some (.tup [.str "bad program", .int (s : Int), oN i, .bl false])) (eax_cons (ev_op (ev_var rfl) ev_c (rv_ixL (LA.of hr sx_none) (at_of (j := 1) rfl rfl))).toX ?_) ?_))) (fun H7 e7 z => nomatch z) (fun H7 e7 _ => s_next ?_)
        · rintro _ G1 f1 rfl
          refine eax_cons (ex_tup (vs := [.str "bad program", .int (s : Int), oN i, .bl false]) (ea_cons (ix (j := 0) f1 (ev_var rfl) rfl) (ea_cons (ix (j := 1) f1 (ev_var rfl) rfl) (ea_cons (ix (j := 2) f1 (ev_var rfl) rfl) (ea_cons ev_c ea_nil)))) (len_le (by simp))) ?_
          rintro _ G2 f2 ⟨q, rfl, _, nq, hq⟩
          exact ea_nil.toX.imp fun w G3 f3 z => ⟨q, by rw [z], ((f1.trans f2).trans f3).1 _ _ sx_none ht, f3.1 _ _ nq hq⟩
        · rintro vs G1 f1 ⟨q, rfl, h1, h2⟩
          exact fun G2 f2 Q2 q2 => spx_same (K := K) (n := 5) (r6 h1) (r6 h2) (by cases i <;> simp [PyData.depth, PyData.depthAll]) G2 f2 Q2 fun z G3 f3 hz => q2 z G3 f3 ⟨true, hz, rfl⟩
        refine s_retX (P := fun v _ => v = .bl true) ?_ fun v H8 e8 hv => by subst hv; exact k H8
        refine (ev_andV (b := true) (c := true) (ev_p0 (ea_cons (ev_var rfl) ea_nil) fun G f => ⟨rfl, g, gs, bs, rfl, (gm6.mono e7).mono f, l4, by rw [hf]; simp, rfl⟩) fun _ => ?_).toX
        refine (ex_op1 (P := fun v _ => v = .bl true) (ex_op1 (P := fun v _ => v = .non) (ex_p0X (P' := fun y G => ∃ r x, y = .ref r ∧ G r = some (.lst [x, .non])) (PA := fun vs G => ∃ a2 as2, vs = [.ref a2] ∧ BodsM none G a2 as2 [[some ("wait", [0])]]) (eax_cons (ex_lstX (PA := fun vs G => ∃ b2, vs = [.ref b2] ∧ BodyA none G b2 [some ("wait", [0])]) (eax_cons (ex_lstX (PA := fun vs G => ∃ v2, vs = [v2] ∧ StmA none G v2 (some ("wait", [0]))) (eax_cons (ex_stm (some ("wait", [0])) (ea_cons ev_c (ea_cons ev_c ea_nil)) (by simp [stV])) ?_) ?_) ?_) ?_) ?_) ?_) ?_) ?_).ev fun _ _ _ z => z
        · intro v G f sv
          exact ea_nil.toX.imp fun w G2 f2 z => ⟨v, by rw [z], sv.mono f2⟩
        · rintro vs G ⟨v2, rfl, _⟩
          exact len_le (by simp)
        · rintro w G f ⟨vs, G1, ⟨v2, rfl, sv⟩, f1, f2, p2, rfl, fp2, np2, hp2⟩
          exact ea_nil.toX.imp fun w G2 f3 z => ⟨p2, by rw [z], np2, _, f3.1 _ _ np2 hp2, rfl, fun i y s z1 z2 => by
            match i, z1, z2 with
            | 0, z1, z2 =>
              cases z1
              cases z2
              exact sv.mono (f2.trans f3)
            | i + 1, z1, z2 => simp at z1⟩
        · rintro vs G ⟨b2, rfl, _⟩
          exact len_le (by simp)
        · rintro w G f ⟨vs, G1, ⟨b2, rfl, bo⟩, f1, f2, a2, rfl, fa2, na2, ha2⟩
          have b2n : b2 ≠ a2 := fun z => by
            obtain ⟨_, ys, z2, z3⟩ := bo.mono f2
            rw [z, ha2] at z2
            injection z2 with z2
            injection z2 with z2
            subst z2
            obtain ⟨p, e, hp, _⟩ := z3.2 0 _ _ rfl rfl
            injection e with e
            rw [← e, z, ha2] at hp
            cases hp
          exact ea_nil.toX.imp fun w G2 f3 z => ⟨a2, [b2], by rw [z], na2, f3.1 _ _ na2 ha2, by simp, by simp; exact fun z => b2n z.symm, rfl, fun i y s z1 z2 => by
            match i, z1, z2 with
            | 0, z1, z2 =>
              cases z1
              cases z2
              exact bo.mono (f2.trans f3)
            | i + 1, z1, z2 => simp at z1⟩
        · rintro vs G f ⟨a2, as2, rfl, z⟩ G1 f1
          refine ⟨_, ⟨rfl, a2, as2, _, rfl, z.mono f1, by simp, rfl⟩, fun y G2 f2 z2 => ?_⟩
          obtain ⟨r2, rfl, _, z3⟩ := z2
          rw [show faultP [[some (("wait" : Str), [(0 : Int)])]] = none by decide] at z3
          obtain ⟨x, hx, _⟩ := z3
          exact ⟨r2, x, rfl, hx⟩
        · rintro v G f ⟨r2, x, rfl, hx⟩
          exact (ev_op ev_c ev_c (rv_ixL (LA.of hx sx_none) (at_of (j := 1) rfl rfl))).toX.imp fun w _ _ z => z
        · rintro _ G f rfl
          exact (ev_op ev_c ev_c rv_isN).toX.imp fun w _ _ z => z
    · have lb : ∀ {σ : L2.St} {t0 : TE} {G : Hp} {bs : List (List Stm)}, BodsM (some (st, l)) G b as bs → Ev K (some (st, l)) t0 σ G (.ref b) → Ev K (some (st, l)) (tCB (rLn K) (tCons t0 tNil)) σ G (.int (bs.length : Int)) := fun z h => ev_is (ev_cb (ea_cons h ea_nil) (rc_len (LA.of z.at_ z.na))) (by rw [List.length_map, z.len])
      refine s_ifAnd (b := decide ((0 : Int) < (bs0.length : Int))) (et_test (ev_op (lb bm0 (ev_var rfl)) ev_c rv_I0)) (fun hb H3 e3 => ?_) (fun hb H3 e3 => kk _ _ ⟨rfl, bs0, (bm0.mono e3).to0, l4, fun ss hs => by have := l20 ss hs; omega⟩)
      have nz : 1 ≤ bs0.length := by have := of_decide_eq_true hb; omega
      refine tt_neCall (K := K) e3 (ea_cons (ev_var rfl) (ea_cons (ev_var rfl) ea_nil)) fun H4 e4 => ?_
      refine ⟨st, l, b, as, bs0, rfl, e4.2 _ rfl, bm0.mono e4, nz, by omega, fun ss hs => by have := l20 ss hs; omega, fun bs' H5 d5 b5 l5 ll5 _ => ?_⟩
      have lx5 : Lx (some (st, l)) H5 H5 := lx_start d5
      refine lb b5 (ev_var rfl) H5 lx5 _ fun H6 e6 => ⟨rfl, _, rfl, ?_⟩
      rw [l5, decide_eq_true rfl]
      exact kk _ _ ⟨rfl, bs', (b5.mono e6).to0, by omega, ll5⟩
end
end Fk
set_option maxHeartbeats 0
open PySem PySem.W PySem.Calls PyProof.Rows
theorem PySem.Challenge.cw_forkwaits_k63_programs_are_made_holds : PySem.Challenge.rw_forkwaits_k63_programs_are_made.Holds := by
  w_on; o_law
  refine HandSHeadRun.head_any (r := OpenLaw.row PySem.Challenge.rw_forkwaits_k63_programs_are_made) (q := view (OpenLaw.row PySem.Challenge.rw_forkwaits_k63_programs_are_made).prog [37]) (H := Fk.hk) (ob := Fk.ob) (M := 9000) (loose := Fk.loose) (d := HandSHeadRun.topDef (OpenLaw.row PySem.Challenge.rw_forkwaits_k63_programs_are_made).prog 37) (kwd := []) Fk.ob_eq
    (by kernel_rfl) (fun s => by kernel_rfl) Fk.run (by kernel_rfl) (by kernel_rfl) (by kernel_rfl) (by rfl) (by first | assumption | decide +kernel) (by decide +kernel) ⟨rfl, rfl, rfl, rfl, rfl, by decide +kernel⟩ ?hw ?hc
  case hw => w_witness2
  case hc =>
    refine L2.walk_ofE (l := PySem.Challenge.rw_forkwaits_k63_programs_are_made) (n := 63) (k := 10) (x := "script") (CX := L2.CX0) rfl (by decide) (by kernel_rfl) ⟨rfl, by decide, by decide⟩ ?F (fun _ _ _ _ z => z)
    intro w mg fa h Y G hmg0
    obtain ⟨K, KX, c, d⟩ := Y
    have hmg : mg ("law" : PySem.Str) = some (.ref fa) := by
      have e : (HandSHeadRun.topDef (OpenLaw.row PySem.Challenge.rw_forkwaits_k63_programs_are_made).prog 37).name = ("law" : PySem.Str) := by kernel_rfl
      rw [← e]
      exact hmg0
    have T : Fk.Txt K mg w := ⟨h, KX, G, c, d⟩
    have e := hmg.symm.trans (Fk.g_law T)
    cases e
    obtain ⟨fd, F⟩ := Fk.F_law T
    have hb := L2.FunD.bindsA (ps := ["script"]) F fun _ _ _ _ _ _ us hl => match us, hl with | [_], _ => rfl
    refine ⟨K, fd, Fk.sp_law K, KX, fun s v => hb s [v] rfl, fun H a ns hl _ hS => Fk.sp_law_of hl hS, fun base _ _ => ?_⟩
    exact (Fk.ok_law (base := base) T).fn F
